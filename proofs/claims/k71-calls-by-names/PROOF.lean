import PyProof.Rows.All
import Wide.All
import OpenK.AllK
import Wide.FinOn
import HandS.ForMost
import HandS.Exc
import KE.DataEq
import HandS.TupAny
import KE.LtData
import HandS.Deep
import HandS.TupLe
import PyProof.StrBlock2
import HandS.IsInst
import HandS.Zip
import KE.GoesEnum
import HandS.Defaults
import HandS.WordsExc
import KE.SortData
import KE.SortKeyHeap
import HandS.Codes
import HandS.WideBits
import HandS.Strs
import HandS.ReCall
import KE.DataFind
import KE.KDictPairs
import HandS.Style
import HandS.NoneIn
import HandS.Star
import HandS.Iter
import HandS.MakeKwOnly
import OpenK.KMore
import HandS.ListItems
import KE.KDictZip
import KE.KDictList
import HandS.OwnEq
import PyProof.InstNe
import KE.KSortKey
import HandS.Keys
import HandS.SortKw
import HandS.HeadEnd
import HandS.HeadHook1
import HandS.HeadHook2
import PySem.Challenge.RW_holebirth_k71_calls_by_names
import HandS.Head0
import HandS.Head1
import HandS.Head2
section
set_option Elab.async false
set_option linter.all false
set_option maxRecDepth 100000
/-! DL1: data, what stands for data, slots, steps. -/
namespace DL
open PySem PySem.Spec PyProof.Rows L2

abbrev D := PyData
def Ex (H H' : Hp) : Prop := ∀ a o, H a = some o → H' a = some o
theorem Ex.refl (H : Hp) : Ex H H := fun _ _ h => h
theorem Ex.trans {H H1 H2 : Hp} (a : Ex H H1) (b : Ex H1 H2) : Ex H H2 := fun x o h => b x o (a x o h)
theorem Ex.new {H : Hp} {p : Addr} {o : HO} (h : H p = none) : Ex H (upd H p o) := fun a u e => by
  rw [upd_ne (ne_of_none e h)]
  exact e
theorem Ex.back {H H' : Hp} {p : Addr} (e : Ex H H') (h : H' p = none) : H p = none := by
  cases h1 : H p with
  | none => rfl
  | some o =>
    rw [e p o h1] at h
    cases h

def keyD : Key → D
  | .inl i => .int i
  | .inr s => .str s
def keyT (ks : List Key) : D := .tuple (ks.map keyD)
def dicK (kds : List (Key × D)) : D := .dict ((.none, .int 0) :: kds.map fun p => (keyD p.1, p.2))
def dicT (kds : List (List Key × D)) : D := .dict ((.none, .int 1) :: kds.map fun p => (keyT p.1, p.2))
def ins (c : Str) (fds : List (Str × D)) : D := .dict ((.none, .str c) :: fds.map fun p => (.str p.1, p.2))

def keyOf : D → Option Key
  | .int i => some (.inl i)
  | .str s => some (.inr s)
  | _ => none
def keysOf : List D → Option (List Key)
  | [] => some []
  | d :: r => match keyOf d, keysOf r with
    | some k, some ks => some (k :: ks)
    | _, _ => none
/-- a dict whose heap object is known (so that a loop may walk it) -/
def dicF (kds : List (Key × D)) : D := .dict ((.none, .int 3) :: kds.map fun p => (keyD p.1, p.2))
/-- a tuple whose heap object is known -/
def knD (ds : List D) : D := .dict [(.none, .int 2), (.none, .tuple ds)]
def strip : D → D
  | .dict [(.none, .int 2), (.none, .tuple ds)] => .tuple ds
  | d => d
mutual
inductive Rep (M : Str → Addr) (F : Hp) : V → D → Prop
  | non : Rep M F .non .none
  | bl (b : Bool) : Rep M F (.bl b) (.bool b)
  | int (i : Int) : Rep M F (.int i) (.int i)
  | str (x : Str) : Rep M F (.str x) (.str x)
  | lst {a : Addr} {vs : List V} {ds : List D} : F a = some (.lst vs) → RepAll M F vs ds → Rep M F (.ref a) (.list ds)
  | tup {a : Addr} {vs : List V} {ds : List D} : F a = some (.tup vs) → RepAll M F vs ds → Rep M F (.ref a) (.tuple ds)
  | tupF {a : Addr} {o : Obj} {vs : List V} {ds : List D} : F a = some (.frz o (.tup vs)) → keysOf ds = none → RepAll M F vs ds → Rep M F (.ref a) (.tuple ds)
  | kn {a : Addr} {o : Obj} {vs : List V} {ds : List D} : F a = some (.frz o (.tup vs)) → o.dict = none → keysOf ds = none → RepAll M F vs ds → Rep M F (.ref a) (knD ds)
  | dcK {a : Addr} {kvs : List (Key × V)} {kds : List (Key × D)} : F a = some (.dK kvs) → kvs.map (·.1) = kds.map (·.1) → RepAll M F (kvs.map (·.2)) (kds.map (·.2)) → Rep M F (.ref a) (dicK kds)
  | dcF {a : Addr} {o : Obj} {kvs : List (Key × V)} {kds : List (Key × D)} : F a = some (.frz o (.dK kvs)) → kvs.map (·.1) = kds.map (·.1) → RepAll M F (kvs.map (·.2)) (kds.map (·.2)) → Rep M F (.ref a) (dicF kds)
  | dcT {a : Addr} {kvs : List (List Key × V)} {kds : List (List Key × D)} : F a = some (.dT kvs) → kvs.map (·.1) = kds.map (·.1) → RepAll M F (kvs.map (·.2)) (kds.map (·.2)) → Rep M F (.ref a) (dicT kds)
  | ins {a dx : Addr} {c : Str} {fs : List (Str × V)} {fds : List (Str × D)} : F a = some (.ins (M c) dx fs) → fs.map (·.1) = fds.map (·.1) → RepAll M F (fs.map (·.2)) (fds.map (·.2)) → Rep M F (.ref a) (ins c fds)
inductive RepAll (M : Str → Addr) (F : Hp) : List V → List D → Prop
  | nil : RepAll M F [] []
  | cons {v : V} {vs : List V} {d : D} {ds : List D} : Rep M F v d → RepAll M F vs ds → RepAll M F (v :: vs) (d :: ds)
end

section
variable {M : Str → Addr} {K : PySem.W.Frag} {F F' H H' : Hp} {v : V} {vs : List V} {d : D} {ds : List D}
mutual
theorem Rep.mono (e : Ex F F') : ∀ {v : V} {d : D}, Rep M F v d → Rep M F' v d
  | _, _, .non => .non
  | _, _, .bl b => .bl b
  | _, _, .int i => .int i
  | _, _, .str x => .str x
  | _, _, .lst h r => .lst (e _ _ h) (RepAll.mono e r)
  | _, _, .tup h r => .tup (e _ _ h) (RepAll.mono e r)
  | _, _, .tupF h k2 r => .tupF (e _ _ h) k2 (RepAll.mono e r)
  | _, _, .kn h k1 k2 r => .kn (e _ _ h) k1 k2 (RepAll.mono e r)
  | _, _, .dcK h k r => .dcK (e _ _ h) k (RepAll.mono e r)
  | _, _, .dcF h k r => .dcF (e _ _ h) k (RepAll.mono e r)
  | _, _, .dcT h k r => .dcT (e _ _ h) k (RepAll.mono e r)
  | _, _, .ins h k r => .ins (e _ _ h) k (RepAll.mono e r)
theorem RepAll.mono (e : Ex F F') : ∀ {vs : List V} {ds : List D}, RepAll M F vs ds → RepAll M F' vs ds
  | _, _, .nil => .nil
  | _, _, .cons h r => .cons (Rep.mono e h) (RepAll.mono e r)
end
theorem Rep.strip (h : Rep M F v d) : Rep M F v (strip d) := by
  unfold DL.strip
  split
  · rename_i ds
    generalize e : PyData.dict [(PyData.none, PyData.int 2), (PyData.none, PyData.tuple ds)] = d at h
    cases h with
    | kn h1 h2 h3 h4 =>
      simp only [knD, PyData.dict.injEq, List.cons.injEq, Prod.mk.injEq, PyData.tuple.injEq, and_true, true_and] at e
      subst e
      exact .tupF h1 h3 h4
    | dcK h1 h2 h3 => simp [dicK] at e
    | dcT h1 h2 h3 => simp [dicT] at e
    | dcF h1 h2 h3 => simp [dicF] at e
    | ins h1 h2 h3 => simp [DL.ins] at e
    | _ => simp at e
  · exact h
theorem RepAll.length : ∀ {vs : List V} {ds : List D}, RepAll M F vs ds → vs.length = ds.length
  | _, _, .nil => rfl
  | _, _, .cons _ r => by simp [RepAll.length r]
theorem RepAll.get : ∀ {vs : List V} {ds : List D}, RepAll M F vs ds → ∀ (i : Nat) (v : V) (d : D), vs[i]? = some v → ds[i]? = some d → Rep M F v d
  | _, _, .nil, i, v, d, h, _ => by simp at h
  | _, _, .cons h r, 0, v, d, h1, h2 => by
    simp at h1 h2
    rw [← h1, ← h2]
    exact h
  | _, _, .cons h r, i + 1, v, d, h1, h2 => by
    simp at h1 h2
    exact RepAll.get r i v d h1 h2
theorem RepAll.at : ∀ {vs : List V} {ds : List D}, RepAll M F vs ds → ∀ (i : Nat) (d : D), ds[i]? = some d → ∃ v, vs[i]? = some v ∧ Rep M F v d := by
  intro vs ds r i d h
  have hl := r.length
  have hi : i < vs.length := by
    rw [hl]
    exact (List.getElem?_eq_some_iff.mp h).1
  refine ⟨vs[i], List.getElem?_eq_getElem hi, r.get i _ _ (List.getElem?_eq_getElem hi) h⟩
theorem RepAll.at' : ∀ {vs : List V} {ds : List D}, RepAll M F vs ds → ∀ (i : Nat) (v : V), vs[i]? = some v → ∃ d, ds[i]? = some d ∧ Rep M F v d := by
  intro vs ds r i v h
  have hl := r.length
  have hi : i < ds.length := by
    rw [← hl]
    exact (List.getElem?_eq_some_iff.mp h).1
  refine ⟨ds[i], List.getElem?_eq_getElem hi, r.get i _ _ h (List.getElem?_eq_getElem hi)⟩
theorem RepAll.append : ∀ {vs ws : List V} {ds es : List D}, RepAll M F vs ds → RepAll M F ws es → RepAll M F (vs ++ ws) (ds ++ es)
  | _, _, _, _, .nil, q => q
  | _, _, _, _, .cons h r, q => .cons h (RepAll.append r q)
theorem RepAll.snoc (r : RepAll M F vs ds) (h : Rep M F v d) : RepAll M F (vs ++ [v]) (ds ++ [d]) := r.append (.cons h .nil)
theorem RepAll.drop : ∀ {vs : List V} {ds : List D} (n : Nat), RepAll M F vs ds → RepAll M F (vs.drop n) (ds.drop n)
  | _, _, 0, r => by simpa using r
  | _, _, n + 1, .nil => by simpa using RepAll.nil
  | _, _, n + 1, .cons h r => by simpa using RepAll.drop n r
theorem RepAll.take : ∀ {vs : List V} {ds : List D} (n : Nat), RepAll M F vs ds → RepAll M F (vs.take n) (ds.take n)
  | _, _, 0, r => by simpa using RepAll.nil
  | _, _, n + 1, .nil => by simpa using RepAll.nil
  | _, _, n + 1, .cons h r => by simpa using RepAll.cons h (RepAll.take n r)
theorem RepAll.set : ∀ {vs : List V} {ds : List D} (n : Nat), RepAll M F vs ds → Rep M F v d → RepAll M F (vs.set n v) (ds.set n d)
  | _, _, _, .nil, _ => by simpa using RepAll.nil
  | _, _, 0, .cons h r, q => by simpa using RepAll.cons q r
  | _, _, n + 1, .cons h r, q => by simpa using RepAll.cons h (RepAll.set n r q)
theorem RepAll.eraseIdx : ∀ {vs : List V} {ds : List D} (n : Nat), RepAll M F vs ds → RepAll M F (vs.eraseIdx n) (ds.eraseIdx n)
  | _, _, _, .nil => by simpa using RepAll.nil
  | _, _, 0, .cons h r => by simpa using r
  | _, _, n + 1, .cons h r => by simpa using RepAll.cons h (RepAll.eraseIdx n r)
theorem RepAll.reverse : ∀ {vs : List V} {ds : List D}, RepAll M F vs ds → RepAll M F vs.reverse ds.reverse
  | _, _, .nil => .nil
  | _, _, .cons h r => by
    rw [List.reverse_cons, List.reverse_cons]
    exact (RepAll.reverse r).snoc h
theorem repAll_ints : ∀ ns : List Int, RepAll M F (ns.map V.int) (ns.map PyData.int)
  | [] => .nil
  | n :: ns => .cons (.int n) (repAll_ints ns)
theorem repAll_strs : ∀ ns : List Str, RepAll M F (ns.map V.str) (ns.map PyData.str)
  | [] => .nil
  | n :: ns => .cons (.str n) (repAll_strs ns)

/-! ### plain data are the library's data -/
mutual
theorem Rep.dp : ∀ {v : V} {d : D}, Rep M F v d → d.plain = true → Dp K F v d
  | _, _, .non, _ => .non
  | _, _, .bl b, _ => .bl b
  | _, _, .int i, _ => .int i
  | _, _, .str x, _ => .str x
  | _, _, .lst h r, p => .lst (.of h) (RepAll.dp r (by simpa [PyData.plain] using p))
  | _, _, .tup h r, p => .tup (.of h) (RepAll.dp r (by simpa [PyData.plain] using p))
  | _, _, .kn h _ _ r, p => by simp [knD, PyData.plain] at p
  | _, _, .tupF h _ r, p => .tup (.inl (.inr ⟨_, h⟩)) (RepAll.dp r (by simpa [PyData.plain] using p))
  | _, _, .dcK h k r, p => by simp [dicK, PyData.plain] at p
  | _, _, .dcF h k r, p => by simp [dicF, PyData.plain] at p
  | _, _, .dcT h k r, p => by simp [dicT, PyData.plain] at p
  | _, _, .ins h k r, p => by simp [DL.ins, PyData.plain] at p
theorem RepAll.dp : ∀ {vs : List V} {ds : List D}, RepAll M F vs ds → PyData.plainAll ds = true → DpAll K F vs ds
  | _, _, .nil, _ => .nil
  | _, _, .cons h r, p => .cons (Rep.dp h (by simp [PyData.plainAll] at p; exact p.1)) (RepAll.dp r (by simp [PyData.plainAll] at p; exact p.2))
end
end

/-! ### growth -/
structure Grow (F H F' H' : Hp) : Prop where
  ff : Ex F F'
  hh : Ex H H'
  fh : Ex F' H'
  nf : ∀ a, F a = none → H a ≠ none → F' a = none
theorem Grow.refl {F H : Hp} (h : Ex F H) : Grow F H F H := ⟨.refl _, .refl _, h, fun _ h _ => h⟩
theorem Grow.trans {F H F1 H1 F2 H2 : Hp} (a : Grow F H F1 H1) (b : Grow F1 H1 F2 H2) : Grow F H F2 H2 :=
  ⟨a.ff.trans b.ff, a.hh.trans b.hh, b.fh, fun x h1 h2 => b.nf x (a.nf x h1 h2) (by
    cases q : H x with
    | none => exact absurd q h2
    | some o =>
      rw [a.hh x o q]
      simp)⟩
/-- a new frozen object -/
theorem Grow.new {F H : Hp} {p : Addr} {o : HO} (fh : Ex F H) (h : H p = none) : Grow F H (upd F p o) (upd H p o) :=
  ⟨.new (fh.back h), .new h, fun a u e => by
    by_cases q : a = p
    · subst q
      rw [upd_same] at e ⊢
      exact e
    · rw [upd_ne q] at e ⊢
      exact fh a u e, fun a h1 h2 => by
    rw [upd_ne (fun q => h2 (by rw [q]; exact h))]
    exact h1⟩
/-- a new object, not frozen -/
theorem Grow.lay {F H : Hp} {p : Addr} {o : HO} (fh : Ex F H) (h : H p = none) : Grow F H F (upd H p o) :=
  ⟨.refl _, .new h, fh.trans (.new h), fun _ h _ => h⟩

/-! ### parameters: the written part, the classes' addresses; the def's first argument -/
structure Pm where
  K : PySem.W.Frag
  cls : Str → Addr
  arg0 : Option Addr
abbrev Pm.b0 (M : Pm) : Pm := ⟨M.K, M.cls, none⟩
abbrev Pm.ar (M : Pm) (a : Addr) : Pm := ⟨M.K, M.cls, some a⟩
/-- kinds of own objects that hold own objects: 0 the law's drawn numbers, 1 a basis -/
def rngD (cells left : List Int) (at_ : Int) : D := .tuple [.list (cells.map .int), .list (left.map .int), .int at_]
inductive BoxR (cls : Str → Addr) : Nat → Hp → Hp → (Addr → Prop) → Addr → D → Prop
  | rng {F H : Hp} {o : Addr → Prop} {a c l : Addr} {cells left : List Int} {n : Int} : H a = some (.dK [(.inr "cells", .ref c), (.inr "left", .ref l), (.inr "at", .int n)]) → F c = some (.lst (cells.map V.int)) → H l = some (.lst (left.map V.int)) → l ≠ a → (∀ b, o b ↔ b = a ∨ b = l) → BoxR cls 0 F H o a (rngD cells left n)
  | bas {F H : Hp} {o : Addr → Prop} {a dx k : Addr} {kvs : List (Key × V)} {kds : List (Key × D)} : H a = some (.ins (cls "Basis") dx [("kept", .ref k)]) → H k = some (.dK kvs) → kvs.map (·.1) = kds.map (·.1) → RepAll cls F (kvs.map (·.2)) (kds.map (·.2)) → k ≠ a → (∀ b, o b ↔ b = a ∨ b = k) → BoxR cls 1 F H o a (dicK kds)
  | par {F H : Hp} {o : Addr → Prop} {a dx l k : Addr} {vs : List V} {ds : List D} {kvs : List (Key × V)} {kds : List (Key × D)} : H a = some (.ins (cls "Pairing") dx [("chains", .ref l), ("ends", .ref k)]) → H l = some (.lst vs) → RepAll cls F vs ds → H k = some (.dK kvs) → kvs.map (·.1) = kds.map (·.1) → RepAll cls F (kvs.map (·.2)) (kds.map (·.2)) → l ≠ a → k ≠ a → l ≠ k → (∀ b, o b ↔ b = a ∨ b = l ∨ b = k) → BoxR cls 2 F H o a (.tuple [.list ds, dicK kds])
theorem BoxR.mono {cls : Str → Addr} {n : Nat} {F H F' H' : Hp} {o : Addr → Prop} {a : Addr} {d : D} (h : BoxR cls n F H o a d) (e : Ex F F') (k : ∀ b u, o b → H b = some u → H' b = some u) : BoxR cls n F' H' o a d := by
  cases h with
  | rng h1 h2 h3 h4 h5 => exact .rng (k _ _ ((h5 _).mpr (.inl rfl)) h1) (e _ _ h2) (k _ _ ((h5 _).mpr (.inr rfl)) h3) h4 h5
  | bas h1 h2 h3 h4 h5 h6 => exact .bas (k _ _ ((h6 _).mpr (.inl rfl)) h1) (k _ _ ((h6 _).mpr (.inr rfl)) h2) h3 (h4.mono e) h5 h6
  | par h1 h2 h3 h4 h5 h6 h7 h8 h9 h10 => exact .par (k _ _ ((h10 _).mpr (.inl rfl)) h1) (k _ _ ((h10 _).mpr (.inr (.inl rfl))) h2) (h3.mono e) (k _ _ ((h10 _).mpr (.inr (.inr rfl))) h4) h5 (h6.mono e) h7 h8 h9 h10
def frzT (n : Nat) (d : D) : Option D := match n with
  | 1 => some (ins "Basis" [("kept", d)])
  | _ => none
theorem box_frz {cls : Str → Addr} {n : Nat} {F H : Hp} {o : Addr → Prop} {a : Addr} {d d' : D} (h : BoxR cls n F H o a d) (fh : Ex F H) (hf : ∀ b, o b → F b = none) (e : frzT n d = some d') :
    ∃ F', Ex F F' ∧ Ex F' H ∧ (∀ b, F b = none → ¬ o b → F' b = none) ∧ Rep cls F' (.ref a) d' := by
  cases h with
  | rng h1 h2 h3 h4 h5 => cases e
  | par h1 h2 h3 h4 h5 h6 h7 h8 h9 h10 => cases e
  | bas h1 h2 h3 h4 h5 h6 =>
    rename_i dx k kvs kds
    simp only [frzT, Option.some.injEq] at e
    subst e
    have fa := hf a ((h6 a).mpr (.inl rfl))
    have fk := hf k ((h6 k).mpr (.inr rfl))
    have fa' : upd F k (.dK kvs) a = none := by rw [upd_ne (Ne.symm h5)]; exact fa
    have e1 : Ex F (upd F k (.dK kvs)) := .new fk
    have e2 : Ex (upd F k (.dK kvs)) (upd (upd F k (.dK kvs)) a (.ins (cls "Basis") dx [("kept", .ref k)])) := .new fa'
    refine ⟨_, e1.trans e2, fun c u hc => ?_, fun c hc ho => ?_, .ins (c := "Basis") upd_same rfl (.cons ?_ .nil)⟩
    · by_cases q : c = a
      · subst q
        rw [upd_same] at hc
        rw [h1]
        exact hc
      · rw [upd_ne q] at hc
        by_cases q' : c = k
        · subst q'
          rw [upd_same] at hc
          rw [h2]
          exact hc
        · rw [upd_ne q'] at hc
          exact fh c u hc
    · have q := fun z => ho ((h6 c).mpr z)
      rw [upd_ne (fun z => q (.inl z)), upd_ne (fun z => q (.inr z))]
      exact hc
    · exact .dcK (kvs := kvs) (by rw [upd_ne h5, upd_same]) h3 (h4.mono (e1.trans e2))
def bclsT : Nat → Option (Str × List Str)
  | 1 => some ("Basis", ["kept"])
  | 2 => some ("Pairing", ["chains", "ends"])
  | _ => none
theorem box_ins {cls : Str → Addr} {n : Nat} {F H : Hp} {o : Addr → Prop} {a : Addr} {d : D} {c : Str} {ns : List Str} (h : BoxR cls n F H o a d) (e : bclsT n = some (c, ns)) : ∃ dx fs, H a = some (.ins (cls c) dx fs) ∧ fs.map (·.1) = ns := by
  cases h with
  | rng h1 h2 h3 h4 h5 => cases e
  | bas h1 h2 h3 h4 h5 h6 =>
    cases e
    exact ⟨_, _, h1, rfl⟩
  | par h1 h2 h3 h4 h5 h6 h7 h8 h9 h10 =>
    cases e
    exact ⟨_, _, h1, rfl⟩

/-! ### slots -/
inductive Fld where
  | fz (d : D)
  | ol (ds : List D)
  | oK (kds : List (Key × D))
  | oT (kds : List (List Key × D))
inductive Slot where
  | un
  | one (f : Fld)
  | cmp (c : Str) (pin : Option Addr) (fds : List (Str × D))
  | box (n : Nat) (pin : Option Addr) (d : D)
  | vw (ds : List D)
abbrev Slot.val (d : D) : Slot := .one (.fz d)
abbrev Slot.own (ds : List D) : Slot := .one (.ol ds)
abbrev Ow := Addr → Prop
def FldR (M : Pm) (F H : Hp) (o : Ow) (v : V) : Fld → Prop
  | .fz d => (∀ a, ¬ o a) ∧ Rep M.cls F v d
  | .ol ds => ∃ l vs, v = .ref l ∧ (∀ a, o a ↔ a = l) ∧ H l = some (.lst vs) ∧ RepAll M.cls F vs ds
  | .oK kds => ∃ l kvs, v = .ref l ∧ (∀ a, o a ↔ a = l) ∧ H l = some (.dK kvs) ∧ kvs.map (·.1) = kds.map (·.1) ∧ RepAll M.cls F (kvs.map (·.2)) (kds.map (·.2))
  | .oT kds => ∃ l kvs, v = .ref l ∧ (∀ a, o a ↔ a = l) ∧ H l = some (.dT kvs) ∧ kvs.map (·.1) = kds.map (·.1) ∧ RepAll M.cls F (kvs.map (·.2)) (kds.map (·.2))
def CmpR (M : Pm) (F H : Hp) (o : Ow) (a : Addr) (c : Str) (fds : List (Str × D)) : Prop :=
  ∃ dx fs, H a = some (.ins (M.cls c) dx fs) ∧ (∀ b, o b ↔ b = a) ∧ fs.map (·.1) = fds.map (·.1) ∧ RepAll M.cls F (fs.map (·.2)) (fds.map (·.2))
def SlotR (M : Pm) (F H : Hp) (o : Ow) (ov : Option (Option V)) : Slot → Prop
  | .un => ∀ a, ¬ o a
  | .one f => ∃ v, ov = some (some v) ∧ FldR M F H o v f
  | .cmp c pin fds => ∃ a, ov = some (some (.ref a)) ∧ (∀ b, pin = some b → M.arg0 = some a) ∧ CmpR M F H o a c fds
  | .box n pin d => ∃ a, ov = some (some (.ref a)) ∧ (∀ b, pin = some b → M.arg0 = some a) ∧ BoxR M.cls n F H o a d
  | .vw ds => (∀ a, ¬ o a) ∧ ∃ l vs, ov = some (some (.ref l)) ∧ SqL M.K F l vs ∧ RepAll M.cls F vs ds
theorem sqL_ex {K : PySem.W.Frag} {F F' : Hp} {l : Addr} {vs : List V} (e : Ex F F') (h : SqL K F l vs) : SqL K F' l vs := by
  rcases h with (h | ⟨o, h⟩) | h
  · exact .inl (.inl (e _ _ h))
  · exact .inl (.inr ⟨o, e _ _ h⟩)
  · exact .inr h
theorem FldR.mono {M : Pm} {F H F' H' : Hp} {o : Ow} {v : V} (e : Ex F F') (k : ∀ b u, o b → H b = some u → H' b = some u) : ∀ {f : Fld}, FldR M F H o v f → FldR M F' H' o v f
  | .fz d, ⟨h1, h2⟩ => ⟨h1, h2.mono e⟩
  | .ol ds, ⟨l, vs, h1, h2, h3, h4⟩ => ⟨l, vs, h1, h2, k _ _ ((h2 l).mpr rfl) h3, h4.mono e⟩
  | .oK kds, ⟨l, vs, h1, h2, h3, h4, h5⟩ => ⟨l, vs, h1, h2, k _ _ ((h2 l).mpr rfl) h3, h4, h5.mono e⟩
  | .oT kds, ⟨l, vs, h1, h2, h3, h4, h5⟩ => ⟨l, vs, h1, h2, k _ _ ((h2 l).mpr rfl) h3, h4, h5.mono e⟩
theorem SlotR.mono {M : Pm} {F H F' H' : Hp} {o : Ow} {ov : Option (Option V)} (e : Ex F F') (k : ∀ b u, o b → H b = some u → H' b = some u) : ∀ {s : Slot}, SlotR M F H o ov s → SlotR M F' H' o ov s
  | .un, h => h
  | .one f, ⟨v, h1, h2⟩ => ⟨v, h1, h2.mono e k⟩
  | .cmp c pin fds, ⟨a, h0, hp, dx, fs, h1, h2, h3, h4⟩ => ⟨a, h0, hp, dx, fs, k _ _ ((h2 a).mpr rfl) h1, h2, h3, h4.mono e⟩
  | .box n pin d, ⟨a, h0, hp, h1⟩ => ⟨a, h0, hp, h1.mono e k⟩
  | .vw ds, ⟨h1, l, vs, h2, h3, h4⟩ => ⟨h1, l, vs, h2, sqL_ex e h3, h4.mono e⟩

abbrev Gam := List Slot
abbrev Own := Nat → Addr → Prop
structure StR (M : Pm) (Γ : Gam) (σ : L2.St) (F H : Hp) (own : Own) : Prop where
  len : Γ.length = σ.length
  fh : Ex F H
  slot : ∀ i s, Γ[i]? = some s → SlotR M F H (own i) σ[i]? s
  out : ∀ i, Γ.length ≤ i → ∀ a, ¬ own i a
  free : ∀ i a, own i a → F a = none
  there : ∀ i a, own i a → H a ≠ none
  disj : ∀ i j a, own i a → own j a → i = j
structure Step (F H : Hp) (own : Own) (F' H' : Hp) (own' : Own) : Prop where
  ff : Ex F F'
  hh : ∀ a o, H a = some o → (∀ i, ¬ own i a) → H' a = some o
  nf : ∀ a, F a = none → H a ≠ none → (∀ i, ¬ own i a) → F' a = none
  no : ∀ i a, own' i a → (∃ j, own j a) ∨ H a = none
  al : ∀ a, H a ≠ none → H' a ≠ none
theorem Step.refl (F H : Hp) (own : Own) : Step F H own F H own := ⟨.refl _, fun _ _ h _ => h, fun _ h _ _ => h, fun i _ h => .inl ⟨i, h⟩, fun _ h => h⟩
theorem Step.trans {F H F1 H1 F2 H2 : Hp} {own own1 own2 : Own} (a : Step F H own F1 H1 own1) (b : Step F1 H1 own1 F2 H2 own2) : Step F H own F2 H2 own2 where
  ff := a.ff.trans b.ff
  hh := fun x o h n => b.hh x o (a.hh x o h n) fun i hi => by
    rcases a.no i x hi with ⟨j, hj⟩ | q
    · exact n j hj
    · rw [h] at q
      cases q
  nf := fun x h1 h2 n => b.nf x (a.nf x h1 h2 n) (a.al x h2) fun i hi => by
    rcases a.no i x hi with ⟨j, hj⟩ | q
    · exact n j hj
    · exact h2 q
  no := fun i x hi => by
    rcases b.no i x hi with ⟨j, hj⟩ | q
    · exact a.no j x hj
    · right
      cases e : H x with
      | none => rfl
      | some o => exact absurd q (a.al x (by rw [e]; simp))
  al := fun x h => b.al x (a.al x h)
theorem Grow.step {F H F' H' : Hp} (g : Grow F H F' H') (own : Own) : Step F H own F' H' own :=
  ⟨g.ff, fun a o h _ => g.hh a o h, fun a h1 h2 _ => g.nf a h1 h2, fun i a h => .inl ⟨i, h⟩, fun a h => by
    cases e : H a with
    | none => exact absurd e h
    | some o =>
      rw [g.hh a o e]
      simp⟩
section
variable {M : Pm} {Γ : Gam} {σ : L2.St} {F H F' H' : Hp} {own : Own}
theorem StR.grow (s : StR M Γ σ F H own) (g : Grow F H F' H') : StR M Γ σ F' H' own where
  len := s.len
  fh := g.fh
  slot := fun i x h => (s.slot i x h).mono g.ff fun b u _ => g.hh b u
  out := s.out
  free := fun i a h => g.nf a (s.free i a h) (s.there i a h)
  there := fun i a h => (g.step own).al a (s.there i a h)
  disj := s.disj
def putO (own : Own) (i : Nat) (o : Ow) : Own := fun j => if j = i then o else own j
theorem putO_same {i : Nat} {o : Ow} : putO own i o i = o := by simp [putO]
theorem putO_ne {i j : Nat} {o : Ow} (h : j ≠ i) : putO own i o j = own j := by simp [putO, h]
theorem putO_self {i : Nat} : putO own i (own i) = own := by
  funext j
  by_cases h : j = i
  · subst h; rw [putO_same]
  · rw [putO_ne h]
/-- a slot is set: its new footprint is apart from the others -/
theorem StR.put (s : StR M Γ σ F H own) {i : Nat} {x : Slot} {ov : Option V} {o : Ow} (hi : i < Γ.length) (h : SlotR M F H o (some ov) x) (hf : ∀ a, o a → F a = none) (ht : ∀ a, o a → H a ≠ none)
    (hd : ∀ a, o a → ∀ j, j ≠ i → ¬ own j a) : StR M (Γ.set i x) (σ.set i ov) F H (putO own i o) where
  len := by simp [s.len]
  fh := s.fh
  slot := fun j y hj => by
    by_cases e : j = i
    · subst e
      rw [List.getElem?_set_self hi] at hj
      rw [List.getElem?_set_self (by rw [← s.len]; exact hi), putO_same]
      cases hj
      exact h
    · rw [List.getElem?_set_ne (Ne.symm e)] at hj ⊢
      rw [putO_ne e]
      exact s.slot j y hj
  out := fun j hj a => by
    rw [List.length_set] at hj
    rw [putO_ne (by omega)]
    exact s.out j hj a
  free := fun j a hj => by
    by_cases e : j = i
    · subst e; rw [putO_same] at hj; exact hf a hj
    · rw [putO_ne e] at hj; exact s.free j a hj
  there := fun j a hj => by
    by_cases e : j = i
    · subst e; rw [putO_same] at hj; exact ht a hj
    · rw [putO_ne e] at hj; exact s.there j a hj
  disj := fun j k a hj hk => by
    by_cases e : j = i
    · by_cases e' : k = i
      · rw [e, e']
      · subst e
        rw [putO_same] at hj
        rw [putO_ne e'] at hk
        exact absurd hk (hd a hj k e')
    · by_cases e' : k = i
      · subst e'
        rw [putO_same] at hk
        rw [putO_ne e] at hj
        exact absurd hj (hd a hk j e)
      · rw [putO_ne e] at hj
        rw [putO_ne e'] at hk
        exact s.disj j k a hj hk
/-- a slot's knowledge changed, its value kept -/
theorem StR.put0 (s : StR M Γ σ F H own) {i : Nat} {x : Slot} {ov : Option V} {o : Ow} (hi : i < Γ.length) (hσ : σ[i]? = some ov) (h : SlotR M F H o (some ov) x) (hf : ∀ a, o a → F a = none) (ht : ∀ a, o a → H a ≠ none)
    (hd : ∀ a, o a → ∀ j, j ≠ i → ¬ own j a) : StR M (Γ.set i x) σ F H (putO own i o) := by
  have q := s.put (ov := ov) hi h hf ht hd
  have e : σ.set i ov = σ := by
    apply List.ext_getElem?
    intro j
    by_cases e : j = i
    · subst e
      rw [List.getElem?_set_self (by rw [← s.len]; exact hi), hσ]
    · rw [List.getElem?_set_ne (Ne.symm e)]
  rw [e] at q
  exact q
theorem StR.lt (s : StR M Γ σ F H own) {i : Nat} {x : Slot} (h : Γ[i]? = some x) : i < Γ.length := (List.getElem?_eq_some_iff.mp h).1
/-- the heap is written within one slot's footprint -/
theorem StR.write (s : StR M Γ σ F H own) {i : Nat} {x : Slot} {o : Ow} (hi : i < Γ.length) (hk : ∀ a u, H a = some u → ¬ own i a → H' a = some u) (ho : ∀ a, o a → F a = none) (ht : ∀ a, o a → H' a ≠ none)
    (hd : ∀ a, o a → own i a ∨ H a = none) (h : SlotR M F H' o σ[i]? x) : StR M (Γ.set i x) σ F H' (putO own i o) := by
  have fh : Ex F H' := fun a u e => hk a u (s.fh a u e) fun q => by
    rw [s.free i a q] at e
    cases e
  have hs := s.len
  obtain ⟨ov, hσ⟩ : ∃ ov, σ[i]? = some ov := ⟨σ[i]'(by omega), List.getElem?_eq_getElem _⟩
  refine ⟨by simp [s.len], fh, fun j y hj => ?_, fun j hj a => ?_, fun j a hj => ?_, fun j a hj => ?_, fun j k a hj hk' => ?_⟩
  · by_cases e : j = i
    · subst e
      rw [List.getElem?_set_self hi] at hj
      rw [putO_same]
      cases hj
      exact h
    · rw [List.getElem?_set_ne (Ne.symm e)] at hj
      rw [putO_ne e]
      exact (s.slot j y hj).mono (.refl _) fun b u hb hu => hk b u hu fun q => e (s.disj j i b hb q)
  · rw [List.length_set] at hj
    rw [putO_ne (by omega)]
    exact s.out j hj a
  · by_cases e : j = i
    · subst e; rw [putO_same] at hj; exact ho a hj
    · rw [putO_ne e] at hj; exact s.free j a hj
  · by_cases e : j = i
    · subst e; rw [putO_same] at hj; exact ht a hj
    · rw [putO_ne e] at hj
      have h1 := s.there j a hj
      cases q : H a with
      | none => exact absurd q h1
      | some u =>
        rw [hk a u q fun z => e (s.disj j i a hj z)]
        simp
  · have key : ∀ j, j ≠ i → own j a → ¬ o a := fun j e hj ho' => by
      rcases hd a ho' with q | q
      · exact e (s.disj j i a hj q)
      · exact s.there j a hj q
    by_cases e : j = i
    · by_cases e' : k = i
      · rw [e, e']
      · subst e
        rw [putO_same] at hj
        rw [putO_ne e'] at hk'
        exact absurd hj (key k e' hk')
    · by_cases e' : k = i
      · subst e'
        rw [putO_same] at hk'
        rw [putO_ne e] at hj
        exact absurd hk' (key j e hj)
      · rw [putO_ne e] at hj
        rw [putO_ne e'] at hk'
        exact s.disj j k a hj hk'
theorem Step.write {i : Nat} {o : Ow} (hk : ∀ a u, H a = some u → ¬ own i a → H' a = some u) (hal : ∀ a, H a ≠ none → H' a ≠ none) (hd : ∀ a, o a → own i a ∨ H a = none) : Step F H own F H' (putO own i o) :=
  ⟨.refl _, fun a u h n => hk a u h (n i), fun _ h _ _ => h, fun j a hj => by
    by_cases e : j = i
    · subst e
      rw [putO_same] at hj
      rcases hd a hj with q | q
      · exact .inl ⟨_, q⟩
      · exact .inr q
    · rw [putO_ne e] at hj
      exact .inl ⟨_, hj⟩, hal⟩
end
end DL
end

section
set_option Elab.async false
set_option linter.all false
set_option maxRecDepth 100000
set_option maxHeartbeats 1000000
/-! DL2: what an expression gives, as a function of the slots. -/
namespace DL
open PySem PySem.Spec PyProof.Rows L2

inductive Val where
  | f (d : D)
  | b (i : Nat)
  | n (f : Fld)
  | nc (c : Str) (fds : List (Str × D))
  | nb (n : Nat) (d : D)
structure Exc where
  cls : Str
  fld : Str
  d : D
inductive R (α : Type) where
  | ok (a : α) (Γ : Gam)
  | err (e : Exc) (Γ : Gam)
  | stuck
def R.bind {α β : Type} (r : R α) (k : α → Gam → R β) : R β := match r with
  | .ok a Γ => k a Γ
  | .err e Γ => .err e Γ
  | .stuck => .stuck
@[simp] theorem R.bind_ok {α β : Type} (a : α) (Γ : Gam) (k : α → Gam → R β) : (R.ok a Γ).bind k = k a Γ := rfl
@[simp] theorem R.bind_err {α β : Type} (e : Exc) (Γ : Gam) (k : α → Gam → R β) : (R.err e Γ).bind k = .err e Γ := rfl
@[simp] theorem R.bind_stuck {α β : Type} (k : α → Gam → R β) : (R.stuck).bind k = .stuck := rfl

def New (H0 F H : Hp) (own : Own) (o : Ow) : Prop := ∀ a, o a → F a = none ∧ H a ≠ none ∧ (∀ i, ¬ own i a) ∧ H0 a = none
def ValR (M : Pm) (σ : L2.St) (H0 F H : Hp) (own : Own) (v : V) : Val → Prop
  | .f d => Rep M.cls F v d
  | .b i => σ[i]? = some (some v)
  | .n f => ∃ o, FldR M F H o v f ∧ New H0 F H own o
  | .nc c fds => ∃ a o, v = .ref a ∧ CmpR M F H o a c fds ∧ New H0 F H own o
  | .nb n d => ∃ a o, v = .ref a ∧ BoxR M.cls n F H o a d ∧ New H0 F H own o
def ValRd (M : Pm) (σ : L2.St) (F : Hp) (v : V) : Val → Prop
  | .f d => Rep M.cls F v d
  | .b i => σ[i]? = some (some v)
  | _ => False
theorem ValRd.mono {M : Pm} {σ : L2.St} {F F' : Hp} {v : V} (e : Ex F F') : ∀ {a : Val}, ValRd M σ F v a → ValRd M σ F' v a
  | .f d, h => Rep.mono e h
  | .b i, h => h
def ErrP (M : Pm) (E : XK) (σ : L2.St) (F H : Hp) (own : Own) (e : Exc) (Γ' : Gam) : Prop :=
  ∀ F' H' own' dd w, StR M Γ' σ F' H' own' → Step F H own F' H' own' → H' dd = some (.xd [(e.fld, w)]) → Rep M.cls F' w e.d → E (.ref (M.cls e.cls)) (some dd) H'
abbrev Rel (β α : Type) := L2.St → Hp → Hp → Hp → Own → β → α → Prop
def PostG {α β : Type} (rel : Rel β α) (M : Pm) (E : XK) (σ : L2.St) (F H : Hp) (own : Own) (Q : β → Hp → Prop) : R α → Prop
  | .ok a Γ' => ∀ x F' H' own', StR M Γ' σ F' H' own' → Step F H own F' H' own' → rel σ H F' H' own' x a → Q x H'
  | .err e Γ' => ErrP M E σ F H own e Γ'
  | .stuck => False
def relV (M : Pm) : Rel V Val := fun σ H0 F H own v a => ValR M σ H0 F H own v a
def relD (M : Pm) : Rel V Val := fun σ _ F _ _ v a => ValRd M σ F v a
inductive ValsRd (M : Pm) (σ : L2.St) (F : Hp) : List V → List Val → Prop
  | nil : ValsRd M σ F [] []
  | cons {v vs a as} : ValRd M σ F v a → ValsRd M σ F vs as → ValsRd M σ F (v :: vs) (a :: as)
theorem ValsRd.mono {M : Pm} {σ : L2.St} {F F' : Hp} (e : Ex F F') : ∀ {vs : List V} {as : List Val}, ValsRd M σ F vs as → ValsRd M σ F' vs as
  | _, _, .nil => .nil
  | _, _, .cons h r => .cons (h.mono e) (r.mono e)
def relA (M : Pm) : Rel (List V) (List Val) := fun σ _ F _ _ v a => ValsRd M σ F v a
def relB : Rel Bool Bool := fun _ _ _ _ _ x a => x = a
/-- the relation's start may lie further back -/
def Back {α β : Type} (rel : Rel β α) : Prop := ∀ σ H0 H1 F H own x a, (∀ b, H1 b = none → H0 b = none) → rel σ H1 F H own x a → rel σ H0 F H own x a
theorem New.back {H0 H1 F H : Hp} {own : Own} {o : Ow} (h : ∀ b, H1 b = none → H0 b = none) (n : New H1 F H own o) : New H0 F H own o := fun a ha => by
  obtain ⟨h1, h2, h3, h4⟩ := n a ha
  exact ⟨h1, h2, h3, h a h4⟩
theorem back_V (M : Pm) : Back (relV M) := fun σ H0 H1 F H own x a h r => by
  cases a with
  | f d => exact r
  | b i => exact r
  | n f =>
    obtain ⟨o, h1, h2⟩ := r
    exact ⟨o, h1, h2.back h⟩
  | nc c fds =>
    obtain ⟨a, o, h0, h1, h2⟩ := r
    exact ⟨a, o, h0, h1, h2.back h⟩
  | nb n d =>
    obtain ⟨a, o, h0, h1, h2⟩ := r
    exact ⟨a, o, h0, h1, h2.back h⟩
theorem back_D (M : Pm) : Back (relD M) := fun _ _ _ _ _ _ _ _ _ r => r
theorem back_A (M : Pm) : Back (relA M) := fun _ _ _ _ _ _ _ _ _ r => r
theorem back_B : Back relB := fun _ _ _ _ _ _ _ _ _ r => r
theorem Step.none {F H F' H' : Hp} {own own' : Own} (s : Step F H own F' H' own') : ∀ b, H' b = none → H b = none := fun b h => by
  cases q : H b with
  | none => rfl
  | some o => exact absurd h (s.al b (by rw [q]; simp))
section
variable {α β : Type} {rel : Rel β α} {M : Pm} {E : XK} {σ : L2.St} {F H F1 H1 : Hp} {own own1 : Own} {Q : β → Hp → Prop}
theorem PostG.mono (hb : Back rel) (s : Step F H own F1 H1 own1) : ∀ {r : R α}, PostG rel M E σ F H own Q r → PostG rel M E σ F1 H1 own1 Q r
  | .ok a Γ', h => fun x F' H' own' st s' v => h x F' H' own' st (s.trans s') (hb _ _ _ _ _ _ _ _ s.none v)
  | .err e Γ', h => fun F' H' own' dd w st s' h1 h2 => h F' H' own' dd w st (s.trans s') h1 h2
  | .stuck, h => h
end
def tG {α β : Type} (rel : Rel β α) (M : Pm) (E : XK) (m : Gam → R α) : L2.St → Hp → (β → Hp → Prop) → Prop := fun σ H Q => ∃ Γ F own, StR M Γ σ F H own ∧ PostG rel M E σ F H own Q (m Γ)
abbrev tE (M : Pm) (E : XK) (m : Gam → R Val) : TE := tG (relV M) M E m
abbrev tD (M : Pm) (E : XK) (m : Gam → R Val) : TE := tG (relD M) M E m
abbrev tA (M : Pm) (E : XK) (m : Gam → R (List Val)) : TA := tG (relA M) M E m
abbrev tT (M : Pm) (E : XK) (m : Gam → R Bool) : TT := tG relB M E m
/-- what follows an evaluation -/
theorem post_bind {α β γ δ : Type} {rel : Rel β α} {rel' : Rel δ γ} {M : Pm} {E : XK} {r : R α} {k : α → Gam → R γ} {σ : L2.St} {F0 H0 : Hp} {own0 : Own} {Q : δ → Hp → Prop} {Q' : β → Hp → Prop}
    (p : PostG rel' M E σ F0 H0 own0 Q (r.bind k))
    (hk : ∀ F1 H1 own1 Γ1 x a, r = .ok a Γ1 → StR M Γ1 σ F1 H1 own1 → Step F0 H0 own0 F1 H1 own1 → rel σ H0 F1 H1 own1 x a → PostG rel' M E σ F0 H0 own0 Q (k a Γ1) → Q' x H1) : PostG rel M E σ F0 H0 own0 Q' r := by
  cases e : r with
  | ok a Γ1 =>
    simp only [e, R.bind_ok] at p
    exact fun x F1 H1 own1 st1 s1 v => hk F1 H1 own1 Γ1 x a e st1 s1 v p
  | err x Γ1 =>
    simp only [e, R.bind_err] at p
    exact p
  | stuck =>
    simp only [e, R.bind_stuck] at p
    exact p
/-- a further evaluation, from where one stands -/
theorem tG_go {α β : Type} {rel : Rel β α} {M : Pm} {E : XK} {m : Gam → R α} {σ : L2.St} {F H : Hp} {own : Own} {Γ : Gam} {Q : β → Hp → Prop} (st : StR M Γ σ F H own) (p : PostG rel M E σ F H own Q (m Γ)) : tG rel M E m σ H Q := ⟨Γ, F, own, st, p⟩
section
variable {X : Cx} {e : Expr} {es : List Expr}
theorem PE_weak {t t' : TE} (h : PE X e t) (w : ∀ σ H Q, t' σ H Q → t σ H Q) : PE X e t' := ⟨fun pins s σ H Q I q => h.run pins s σ H Q I (w σ H Q q)⟩
theorem PT_weak {t t' : TT} (h : PT X e t) (w : ∀ σ H Q, t' σ H Q → t σ H Q) : PT X e t' := ⟨fun pins s σ H Q I q => h.run pins s σ H Q I (w σ H Q q)⟩
theorem PW_weak {t t' : TT} (h : PW X e t) (w : ∀ σ H Q, t' σ H Q → t σ H Q) : PW X e t' := ⟨fun o pins s σ H Q I q => h.run o pins s σ H Q I (w σ H Q q)⟩
theorem PA_weak {t t' : TA} (h : PA X es t) (w : ∀ σ H Q, t' σ H Q → t σ H Q) : PA X es t' := ⟨fun pos pins s σ H Q I q => h.run pos pins s σ H Q I (w σ H Q q)⟩
end

/-! ### freezing -/
def fldD : Fld → D
  | .fz d => d
  | .ol ds => .list ds
  | .oK k => dicK k
  | .oT k => dicT k
def Frz (cls : Str → Addr) (F H : Hp) (o : Ow) (v : V) (d : D) : Prop := ∃ F', Ex F F' ∧ Ex F' H ∧ (∀ b, F b = none → ¬ o b → F' b = none) ∧ Rep cls F' v d
theorem frz1 {cls : Str → Addr} {F H : Hp} {o : Ow} {v : V} {d : D} {l : Addr} {u : HO} (fh : Ex F H) (hf : F l = none) (hl : H l = some u) (ho : ∀ a, o a ↔ a = l) (h : ∀ F', Ex F F' → F' l = some u → Rep cls F' v d) : Frz cls F H o v d := by
  refine ⟨upd F l u, .new hf, fun a w e => ?_, fun b h1 h2 => ?_, h _ (.new hf) upd_same⟩
  · by_cases q : a = l
    · subst q
      rw [upd_same] at e
      rw [hl]
      exact e
    · rw [upd_ne q] at e
      exact fh a w e
  · rw [upd_ne fun q => h2 ((ho b).mpr q)]
    exact h1
theorem fld_frz {M : Pm} {F H : Hp} {o : Ow} {v : V} (fh : Ex F H) (hf : ∀ b, o b → F b = none) : ∀ {f : Fld}, FldR M F H o v f → Frz M.cls F H o v (fldD f)
  | .fz d, ⟨h1, h2⟩ => ⟨F, .refl _, fh, fun _ h _ => h, h2⟩
  | .ol ds, ⟨l, vs, h1, h2, h3, h4⟩ => by
    subst h1
    exact frz1 fh (hf l ((h2 l).mpr rfl)) h3 h2 fun F' e h => .lst h (h4.mono e)
  | .oK ds, ⟨l, vs, h1, h2, h3, h4, h5⟩ => by
    subst h1
    exact frz1 fh (hf l ((h2 l).mpr rfl)) h3 h2 fun F' e h => .dcK h h4 (h5.mono e)
  | .oT ds, ⟨l, vs, h1, h2, h3, h4, h5⟩ => by
    subst h1
    exact frz1 fh (hf l ((h2 l).mpr rfl)) h3 h2 fun F' e h => .dcT h h4 (h5.mono e)
theorem cmp_frz {M : Pm} {F H : Hp} {o : Ow} {a : Addr} {c : Str} {fds : List (Str × D)} (fh : Ex F H) (hf : ∀ b, o b → F b = none) (h : CmpR M F H o a c fds) : Frz M.cls F H o (.ref a) (ins c fds) := by
  obtain ⟨dx, fs, h1, h2, h3, h4⟩ := h
  exact frz1 fh (hf a ((h2 a).mpr rfl)) h1 h2 fun F' e h => .ins h h3 (h4.mono e)
section
variable {M : Pm} {Γ : Gam} {σ : L2.St} {F0 H0 F H : Hp} {own0 own : Own}
/-- what is new is frozen -/
theorem StR.frzNew {o : Ow} {v : V} {d : D} (s : StR M Γ σ F H own) (st : Step F0 H0 own0 F H own) (n : New H0 F H own o) (z : Frz M.cls F H o v d) : ∃ F', StR M Γ σ F' H own ∧ Step F0 H0 own0 F' H own ∧ Ex F F' ∧ Rep M.cls F' v d := by
  obtain ⟨F', h1, h2, h3, h4⟩ := z
  refine ⟨F', ⟨s.len, h2, fun i x h => (s.slot i x h).mono h1 fun b u _ q => q, s.out, fun i a h => h3 a (s.free i a h) fun q => (n a q).2.2.1 i h, s.there, s.disj⟩, ⟨st.ff.trans h1, st.hh, fun a q1 q2 q3 => ?_, st.no, st.al⟩, h1, h4⟩
  by_cases q : o a
  · exact absurd (n a q).2.2.2 q2
  · exact h3 a (st.nf a q1 q2 q3) q
/-- a slot's object is frozen -/
theorem StR.frzSlot {i : Nat} {v : V} {d : D} (s : StR M Γ σ F H own) (hi : i < Γ.length) (hv : σ[i]? = some (some v)) (z : Frz M.cls F H (own i) v d) :
    ∃ F', StR M (Γ.set i (.val d)) σ F' H (putO own i fun _ => False) ∧ Step F H own F' H (putO own i fun _ => False) ∧ Ex F F' ∧ Rep M.cls F' v d := by
  obtain ⟨F', h1, h2, h3, h4⟩ := z
  have s1 : StR M (Γ.set i (.val d)) σ F' H (putO own i fun _ => False) := by
    refine ⟨by simp [s.len], h2, fun j x h => ?_, fun j hj a => ?_, fun j a hj => ?_, fun j a hj => ?_, fun j k a hj hk => ?_⟩
    · by_cases e : j = i
      · subst e
        rw [List.getElem?_set_self hi] at h
        cases h
        rw [putO_same]
        exact ⟨v, hv, fun _ q => q, h4⟩
      · rw [List.getElem?_set_ne (Ne.symm e)] at h
        rw [putO_ne e]
        exact (s.slot j x h).mono h1 fun b u _ q => q
    · rw [List.length_set] at hj
      rw [putO_ne (by omega)]
      exact s.out j hj a
    · by_cases e : j = i
      · subst e; rw [putO_same] at hj; exact hj.elim
      · rw [putO_ne e] at hj
        exact h3 a (s.free j a hj) fun q => e (s.disj j i a hj q)
    · by_cases e : j = i
      · subst e; rw [putO_same] at hj; exact hj.elim
      · rw [putO_ne e] at hj; exact s.there j a hj
    · by_cases e : j = i
      · subst e; rw [putO_same] at hj; exact hj.elim
      · by_cases e' : k = i
        · subst e'; rw [putO_same] at hk; exact hk.elim
        · rw [putO_ne e] at hj
          rw [putO_ne e'] at hk
          exact s.disj j k a hj hk
  refine ⟨F', s1, ⟨h1, fun a o h _ => h, fun a q1 q2 q3 => h3 a q1 (q3 i), fun j a hj => ?_, fun a h => h⟩, h1, h4⟩
  by_cases e : j = i
  · subst e; rw [putO_same] at hj; exact hj.elim
  · rw [putO_ne e] at hj; exact .inl ⟨j, hj⟩
end
/-- a slot's content as a datum, if it can be frozen -/
def slotD : Slot → Option D
  | .one f => some (fldD f)
  | .cmp c _ fds => some (ins c fds)
  | .box n _ d => frzT n d
  | _ => none
theorem slot_frz {M : Pm} {F H : Hp} {o : Ow} {ov : Option (Option V)} (fh : Ex F H) (hf : ∀ b, o b → F b = none) {s : Slot} {d : D} (h : SlotR M F H o ov s) (e : slotD s = some d) : ∃ v, ov = some (some v) ∧ Frz M.cls F H o v d := by
  cases s with
  | un => simp [slotD] at e
  | vw ds => simp [slotD] at e
  | one f =>
    obtain ⟨v, h1, h2⟩ := h
    simp only [slotD, Option.some.injEq] at e
    subst e
    exact ⟨v, h1, fld_frz fh hf h2⟩
  | cmp c pin fds =>
    obtain ⟨a, h1, _, h2⟩ := h
    simp only [slotD, Option.some.injEq] at e
    subst e
    exact ⟨_, h1, cmp_frz fh hf h2⟩
  | box n pin d0 =>
    obtain ⟨a, h1, _, h2⟩ := h
    exact ⟨_, h1, box_frz h2 fh hf e⟩
/-- a value that is new is frozen; one in a slot stays there -/
def rdV (Γ : Gam) : Val → R Val
  | .f d => .ok (.f d) Γ
  | .b i => .ok (.b i) Γ
  | .n f => .ok (.f (fldD f)) Γ
  | .nc c fds => .ok (.f (ins c fds)) Γ
  | .nb n d => match frzT n d with
    | some d' => .ok (.f d') Γ
    | none => .stuck
def rd (m : Gam → R Val) : Gam → R Val := fun Γ => (m Γ).bind fun v Γ1 => rdV Γ1 v
/-- any value as a datum: one in a slot is frozen for good -/
def fzV (Γ : Gam) : Val → R D
  | .f d => .ok d Γ
  | .b i => match Γ[i]? with
    | some s => match slotD s with
      | some d => .ok d (Γ.set i (.val d))
      | none => .stuck
    | none => .stuck
  | .n f => .ok (fldD f) Γ
  | .nc c fds => .ok (ins c fds) Γ
  | .nb n d => match frzT n d with
    | some d' => .ok d' Γ
    | none => .stuck
section
variable {M : Pm} {Γ Γ' : Gam} {σ : L2.St} {F0 H0 F H : Hp} {own0 own : Own} {v : V} {d : D}
theorem val_frz (s : StR M Γ σ F H own) (st : Step F0 H0 own0 F H own) : ∀ {a : Val}, ValR M σ H0 F H own v a → fzV Γ a = .ok d Γ' → ∃ F' own', StR M Γ' σ F' H own' ∧ Step F0 H0 own0 F' H own' ∧ Ex F F' ∧ Rep M.cls F' v d
  | .f d0, h, e => by
    cases e
    exact ⟨F, own, s, st, .refl _, h⟩
  | .b i, h, e => by
    simp only [fzV] at e
    split at e
    · rename_i x hx
      split at e
      · rename_i d0 hd
        cases e
        obtain ⟨w, hw, z⟩ := slot_frz s.fh (fun b hb => s.free i b hb) (s.slot i x hx) hd
        have h' : σ[i]? = some (some v) := h
        rw [h'] at hw
        cases hw
        obtain ⟨F', s1, s2, s3, s4⟩ := s.frzSlot (s.lt hx) h' z
        exact ⟨F', _, s1, st.trans s2, s3, s4⟩
      · cases e
    · cases e
  | .n f, ⟨o, h1, h2⟩, e => by
    cases e
    obtain ⟨F', s1, s2, s3, s4⟩ := s.frzNew st h2 (fld_frz s.fh (fun b hb => (h2 b hb).1) h1)
    exact ⟨F', own, s1, s2, s3, s4⟩
  | .nc c fds, ⟨a, o, h0, h1, h2⟩, e => by
    cases e
    subst h0
    obtain ⟨F', s1, s2, s3, s4⟩ := s.frzNew st h2 (cmp_frz s.fh (fun b hb => (h2 b hb).1) h1)
    exact ⟨F', own, s1, s2, s3, s4⟩
  | .nb n d0, ⟨a, o, h0, h1, h2⟩, e => by
    simp only [fzV] at e
    split at e
    · rename_i d1 hd
      cases e
      subst h0
      obtain ⟨F', s1, s2, s3, s4⟩ := s.frzNew st h2 (box_frz h1 s.fh (fun b hb => (h2 b hb).1) hd)
      exact ⟨F', own, s1, s2, s3, s4⟩
    · cases e
theorem val_rd (s : StR M Γ σ F H own) (st : Step F0 H0 own0 F H own) {a a' : Val} (h : ValR M σ H0 F H own v a) (e : rdV Γ a = .ok a' Γ') : Γ' = Γ ∧ ∃ F', StR M Γ σ F' H own ∧ Step F0 H0 own0 F' H own ∧ Ex F F' ∧ ValRd M σ F' v a' := by
  cases a with
  | f d0 =>
    cases e
    exact ⟨rfl, F, s, st, .refl _, h⟩
  | b i =>
    cases e
    exact ⟨rfl, F, s, st, .refl _, h⟩
  | n f =>
    cases e
    obtain ⟨o, h1, h2⟩ := h
    obtain ⟨F', s1, s2, s3, s4⟩ := s.frzNew st h2 (fld_frz s.fh (fun b hb => (h2 b hb).1) h1)
    exact ⟨rfl, F', s1, s2, s3, s4⟩
  | nc c fds =>
    cases e
    obtain ⟨a, o, h0, h1, h2⟩ := h
    subst h0
    obtain ⟨F', s1, s2, s3, s4⟩ := s.frzNew st h2 (cmp_frz s.fh (fun b hb => (h2 b hb).1) h1)
    exact ⟨rfl, F', s1, s2, s3, s4⟩
  | nb n d0 =>
    unfold rdV at e
    simp only at e
    split at e
    · rename_i d1 hd
      cases e
      obtain ⟨a, o, h0, h1, h2⟩ := h
      subst h0
      obtain ⟨F', s1, s2, s3, s4⟩ := s.frzNew st h2 (box_frz h1 s.fh (fun b hb => (h2 b hb).1) hd)
      exact ⟨rfl, F', s1, s2, s3, s4⟩
    · cases e
end
section
variable {X : Cx} {M : Pm} {E : XK} {e a b : Expr} {es : List Expr} {m ma mb : Gam → R Val} {ms : Gam → R (List Val)} {pos : Pos}
/-- an operand -/
theorem pe_rd (h : PE X e (tE M E m)) : PE X e (tD M E (rd m)) := PE_weak h fun σ H Q q => by
  obtain ⟨Γ, F, own, st, p⟩ := q
  refine ⟨Γ, F, own, st, post_bind p fun F1 H1 own1 Γ1 x v _ st s r p => ?_⟩
  cases e : rdV Γ1 v with
  | ok v' Γ2 =>
    obtain ⟨rfl, F', s1, s2, s3, s4⟩ := val_rd st s r e
    rw [e] at p
    exact p x F' H1 own1 s1 s2 s4
  | err x' Γ2 =>
    cases v <;> simp [rdV] at e
    split at e <;> cases e
  | stuck =>
    rw [e] at p
    exact p.elim
def constM (d : D) : Gam → R Val := fun Γ => .ok (.f d) Γ
def varM (i : Nat) : Gam → R Val := fun Γ => match Γ[i]? with
  | some (.one (.fz d)) => .ok (.f d) Γ
  | some .un => .stuck
  | some _ => .ok (.b i) Γ
  | none => .stuck
theorem e_const {v : V} {d : D} (h : PE X e (tC v)) (r : ∀ F, Rep M.cls F v d) : PE X e (tE M E (constM d)) := PE_weak h fun σ H Q q => by
  obtain ⟨Γ, F, own, st, p⟩ := q
  exact p v F H own st (.refl _ _ _) (r F)
theorem e_var {i : Nat} (h : PE X e (tVar i)) : PE X e (tE M E (varM i)) := PE_weak h fun σ H Q q => by
  obtain ⟨Γ, F, own, st, p⟩ := q
  unfold varM at p
  cases hx : Γ[i]? with
  | none =>
    rw [hx] at p
    exact p.elim
  | some s =>
    have hs := st.slot i s hx
    rw [hx] at p
    cases s with
    | un => exact p.elim
    | one f =>
      obtain ⟨v, hv, hr⟩ := hs
      cases f with
      | fz d => exact ⟨v, hv, p v F H own st (.refl _ _ _) hr.2⟩
      | ol ds => exact ⟨v, hv, p v F H own st (.refl _ _ _) hv⟩
      | oK ds => exact ⟨v, hv, p v F H own st (.refl _ _ _) hv⟩
      | oT ds => exact ⟨v, hv, p v F H own st (.refl _ _ _) hv⟩
    | cmp c pin fds =>
      obtain ⟨a, hv, _⟩ := hs
      exact ⟨_, hv, p _ F H own st (.refl _ _ _) hv⟩
    | box n pin d =>
      obtain ⟨a, hv, _⟩ := hs
      exact ⟨_, hv, p _ F H own st (.refl _ _ _) hv⟩
    | vw ds =>
      obtain ⟨_, l, vs, hv, _⟩ := hs
      exact ⟨_, hv, p _ F H own st (.refl _ _ _) hv⟩
/-! ### two operands -/
def OpS (M : Pm) (r : R2) (f : Gam → Val → Val → R Val) : Prop := ∀ E Γ σ F0 H0 own0 F H own x y a b Q, StR M Γ σ F H own → Step F0 H0 own0 F H own → ValRd M σ F x a → ValRd M σ F y b →
  PostG (relV M) M E σ F0 H0 own0 Q (f Γ a b) → r x y H Q
def bin (f : Gam → Val → Val → R Val) (ma mb : Gam → R Val) : Gam → R Val := fun Γ => (rd ma Γ).bind fun va Γ1 => (rd mb Γ1).bind fun vb Γ2 => f Γ2 va vb
theorem tE_bin {f : Gam → Val → Val → R Val} {r : R2} (hs : OpS M r f) {σ : L2.St} {H : Hp} {Q : VK} (h : tE M E (bin f ma mb) σ H Q) : tD M E (rd ma) σ H fun x H1 => tD M E (rd mb) σ H1 fun y H2 => r x y H2 Q := by
  obtain ⟨Γ, F, own, st, p⟩ := h
  refine ⟨Γ, F, own, st, post_bind p fun F1 H1 own1 Γ1 x va _ st1 s1 r1 p1 => ⟨Γ1, F1, own1, st1, post_bind (p1.mono (back_V M) s1) fun F2 H2 own2 Γ2 y vb _ st2 s2 r2 p2 => ?_⟩⟩
  exact hs E Γ2 σ F1 H1 own1 F2 H2 own2 x y va vb Q st2 s2 (ValRd.mono s2.ff r1) r2 p2
theorem e_bin {op : Operator} {r : R2} {f : Gam → Val → Val → R Val} (ho : OpR X (binaryOp op) r) (hs : OpS M r f) (ha : PE X a (tE M E ma)) (hb : PE X b (tE M E mb)) : PE X (.BinOp a op b pos) (tE M E (bin f ma mb)) :=
  PE_weak (pe_op ho (pe_rd ha) (pe_rd hb)) fun _ _ _ q => tE_bin hs q
theorem e_cmp {op : CmpOp} {r : R2} {f : Gam → Val → Val → R Val} (ho : OpR X (compareOp op) r) (hs : OpS M r f) (ha : PE X a (tE M E ma)) (hb : PE X b (tE M E mb)) (hm : behindInMarks op b = false) : PE X (.Compare a [op] [b] pos) (tE M E (bin f ma mb)) :=
  PE_weak (pe_cmpR ho (pe_rd ha) (pe_rd hb) hm) fun _ _ _ q => tE_bin hs q
end
end DL
end

section
set_option Elab.async false
set_option linter.all false
set_option maxRecDepth 100000
set_option maxHeartbeats 1000000
/-! DL3: views, operators. -/
namespace DL
open PySem PySem.Spec PyProof.Rows L2

/-! ### dicts as data, read back -/
theorem keyOf_keyD : ∀ k : Key, keyOf (keyD k) = some k
  | .inl i => rfl
  | .inr s => rfl
theorem keyD_inj {a b : Key} (h : keyD a = keyD b) : a = b := by
  have := keyOf_keyD a
  rw [h, keyOf_keyD] at this
  exact (Option.some.inj this).symm
theorem keysOf_map : ∀ ks : List Key, keysOf (ks.map keyD) = some ks
  | [] => rfl
  | k :: ks => by simp [keysOf, keyOf_keyD, keysOf_map ks]
def keyTOf : D → Option (List Key)
  | .tuple ds => keysOf ds
  | _ => none
theorem keyTOf_keyT (ks : List Key) : keyTOf (keyT ks) = some ks := keysOf_map ks
theorem keyOf_some {d : D} {k : Key} (h : keyOf d = some k) : d = keyD k := by
  cases d <;> simp [keyOf] at h <;> subst h <;> rfl
theorem keysOf_some : ∀ {ds : List D} {ks : List Key}, keysOf ds = some ks → ds = ks.map keyD
  | [], _, h => by
    simp [keysOf] at h
    subst h
    rfl
  | d :: r, ks, h => by
    simp only [keysOf] at h
    split at h
    · rename_i k ks' h1 h2
      cases h
      rw [keyOf_some h1, keysOf_some h2]
      rfl
    · cases h
theorem keyTOf_some {d : D} {ks : List Key} (h : keyTOf d = some ks) : d = keyT ks := by
  cases d <;> simp [keyTOf] at h
  rw [keysOf_some h]
  rfl
def prsK : List (D × D) → Option (List (Key × D))
  | [] => some []
  | p :: r => match keyOf p.1, prsK r with
    | some k, some ks => some ((k, p.2) :: ks)
    | _, _ => none
def prsT : List (D × D) → Option (List (List Key × D))
  | [] => some []
  | p :: r => match keyTOf p.1, prsT r with
    | some k, some ks => some ((k, p.2) :: ks)
    | _, _ => none
theorem prsK_map : ∀ kds : List (Key × D), prsK (kds.map fun p => (keyD p.1, p.2)) = some kds
  | [] => rfl
  | k :: ks => by simp [prsK, keyOf_keyD, prsK_map ks]
theorem prsT_map : ∀ kds : List (List Key × D), prsT (kds.map fun p => (keyT p.1, p.2)) = some kds
  | [] => rfl
  | k :: ks => by simp [prsT, keyTOf_keyT, prsT_map ks]
theorem prsK_some : ∀ {r : List (D × D)} {kds : List (Key × D)}, prsK r = some kds → r = kds.map fun p => (keyD p.1, p.2)
  | [], _, h => by
    simp [prsK] at h
    subst h
    rfl
  | p :: r, ks, h => by
    simp only [prsK] at h
    split at h
    · rename_i k ks' h1 h2
      cases h
      rw [prsK_some h2, List.map_cons, ← keyOf_some h1]
    · cases h
theorem prsT_some : ∀ {r : List (D × D)} {kds : List (List Key × D)}, prsT r = some kds → r = kds.map fun p => (keyT p.1, p.2)
  | [], _, h => by
    simp [prsT] at h
    subst h
    rfl
  | p :: r, ks, h => by
    simp only [prsT] at h
    split at h
    · rename_i k ks' h1 h2
      cases h
      rw [prsT_some h2, List.map_cons, ← keyTOf_some h1]
    · cases h
def decK : D → Option (List (Key × D))
  | .dict ((.none, .int 0) :: r) => prsK r
  | .dict ((.none, .int 3) :: r) => prsK r
  | _ => none
def decT : D → Option (List (List Key × D))
  | .dict ((.none, .int 1) :: r) => prsT r
  | _ => none
@[simp] theorem decK_dicK (kds : List (Key × D)) : decK (dicK kds) = some kds := prsK_map kds
@[simp] theorem decT_dicT (kds : List (List Key × D)) : decT (dicT kds) = some kds := prsT_map kds
@[simp] theorem decK_dicF (kds : List (Key × D)) : decK (dicF kds) = some kds := prsK_map kds
theorem decK_some {d : D} {kds : List (Key × D)} (h : decK d = some kds) : d = dicK kds ∨ d = dicF kds := by
  unfold decK at h
  split at h
  · rw [prsK_some h]
    exact .inl rfl
  · rw [prsK_some h]
    exact .inr rfl
  · cases h
theorem decT_some {d : D} {kds : List (List Key × D)} (h : decT d = some kds) : d = dicT kds := by
  unfold decT at h
  split at h
  · rw [prsT_some h]
    rfl
  · cases h
section
variable {M : Str → Addr} {F : Hp} {v : V}
theorem Rep.invK {kds : List (Key × D)} (h : Rep M F v (dicK kds)) : ∃ a kvs, v = .ref a ∧ F a = some (.dK kvs) ∧ kvs.map (·.1) = kds.map (·.1) ∧ RepAll M F (kvs.map (·.2)) (kds.map (·.2)) := by
  generalize e : dicK kds = d at h
  cases h with
  | dcK h1 h2 h3 =>
    rename_i a kvs kds'
    have := congrArg decK e
    rw [decK_dicK, decK_dicK] at this
    cases this
    exact ⟨_, _, rfl, h1, h2, h3⟩
  | dcT h1 h2 h3 => simp [dicK, dicT] at e
  | ins h1 h2 h3 => simp [dicK, DL.ins] at e
  | kn h1 h2 h3 h4 => simp [dicK, knD] at e
  | dcF h1 h2 h3 => simp [dicK, dicF] at e
  | _ => simp [dicK] at e
theorem Rep.invT {kds : List (List Key × D)} (h : Rep M F v (dicT kds)) : ∃ a kvs, v = .ref a ∧ F a = some (.dT kvs) ∧ kvs.map (·.1) = kds.map (·.1) ∧ RepAll M F (kvs.map (·.2)) (kds.map (·.2)) := by
  generalize e : dicT kds = d at h
  cases h with
  | dcK h1 h2 h3 => simp [dicK, dicT] at e
  | dcT h1 h2 h3 =>
    have := congrArg decT e
    rw [decT_dicT, decT_dicT] at this
    cases this
    exact ⟨_, _, rfl, h1, h2, h3⟩
  | ins h1 h2 h3 => simp [dicT, DL.ins] at e
  | kn h1 h2 h3 h4 => simp [dicT, knD] at e
  | dcF h1 h2 h3 => simp [dicT, dicF] at e
  | _ => simp [dicT] at e
theorem map_pair_inj {fds fds' : List (Str × D)} (e : fds.map (fun p => ((PyData.str p.1 : D), p.2)) = fds'.map (fun p => ((PyData.str p.1 : D), p.2))) : fds = fds' := by
  induction fds generalizing fds' with
  | nil => cases fds' with
    | nil => rfl
    | cons a b => simp at e
  | cons p r ih => cases fds' with
    | nil => simp at e
    | cons a b =>
      simp at e
      obtain ⟨⟨e1, e2⟩, e3⟩ := e
      have : r = b := ih (by simpa using e3)
      rw [this]
      congr 1
      exact Prod.ext e1 e2
theorem Rep.invI {c : Str} {fds : List (Str × D)} (h : Rep M F v (DL.ins c fds)) : ∃ a dx fs, v = .ref a ∧ F a = some (.ins (M c) dx fs) ∧ fs.map (·.1) = fds.map (·.1) ∧ RepAll M F (fs.map (·.2)) (fds.map (·.2)) := by
  generalize e : DL.ins c fds = d at h
  cases h with
  | dcK h1 h2 h3 => simp [dicK, DL.ins] at e
  | dcT h1 h2 h3 => simp [dicT, DL.ins] at e
  | ins h1 h2 h3 =>
    simp only [DL.ins, PyData.dict.injEq, List.cons.injEq, Prod.mk.injEq, PyData.str.injEq, true_and] at e
    obtain ⟨rfl, e⟩ := e
    have := map_pair_inj e
    subst this
    exact ⟨_, _, _, rfl, h1, h2, h3⟩
  | kn h1 h2 h3 h4 => simp [DL.ins, knD] at e
  | dcF h1 h2 h3 => simp [DL.ins, dicF] at e
  | _ => simp [DL.ins] at e
theorem Rep.invF {kds : List (Key × D)} (h : Rep M F v (dicF kds)) : ∃ a o kvs, v = .ref a ∧ F a = some (.frz o (.dK kvs)) ∧ kvs.map (·.1) = kds.map (·.1) ∧ RepAll M F (kvs.map (·.2)) (kds.map (·.2)) := by
  generalize e : dicF kds = d at h
  cases h with
  | dcF h1 h2 h3 =>
    have := congrArg decK e
    rw [decK_dicF, decK_dicF] at this
    cases this
    exact ⟨_, _, _, rfl, h1, h2, h3⟩
  | dcK h1 h2 h3 => simp [dicK, dicF] at e
  | dcT h1 h2 h3 => simp [dicT, dicF] at e
  | ins h1 h2 h3 => simp [dicF, DL.ins] at e
  | kn h1 h2 h3 h4 => simp [dicF, knD] at e
  | _ => simp [dicF] at e
theorem Rep.invKF {d : D} {kds : List (Key × D)} (h : Rep M F v d) (e : decK d = some kds) : ∃ a kvs, v = .ref a ∧ Rd F a (.dK kvs) ∧ kvs.map (·.1) = kds.map (·.1) ∧ RepAll M F (kvs.map (·.2)) (kds.map (·.2)) := by
  rcases decK_some e with rfl | rfl
  · obtain ⟨a, kvs, h1, h2, h3⟩ := Rep.invK h
    exact ⟨a, kvs, h1, .inl h2, h3⟩
  · obtain ⟨a, o, kvs, h1, h2, h3⟩ := Rep.invF h
    exact ⟨a, kvs, h1, .inr ⟨o, h2⟩, h3⟩
theorem Rep.invL {ds : List D} (h : Rep M F v (.list ds)) : ∃ a vs, v = .ref a ∧ F a = some (.lst vs) ∧ RepAll M F vs ds := by
  cases h with
  | lst h1 h2 => exact ⟨_, _, rfl, h1, h2⟩
theorem Rep.invU {ds : List D} (h : Rep M F v (.tuple ds)) : ∃ a vs, v = .ref a ∧ Rd F a (.tup vs) ∧ RepAll M F vs ds := by
  cases h with
  | tup h1 h2 => exact ⟨_, _, rfl, .inl h1, h2⟩
  | tupF h1 _ h2 => exact ⟨_, _, rfl, .inr ⟨_, h1⟩, h2⟩
theorem rd_up {F H : Hp} {a : Addr} {u : HO} (e : Ex F H) (h : Rd F a u) : Rd H a u := by
  rcases h with h | ⟨o, h⟩
  · exact .inl (e _ _ h)
  · exact .inr ⟨o, e _ _ h⟩
theorem RepAll.strs_inv : ∀ {ks : List Key} {vs : List V}, RepAll M F vs (ks.map keyD) → vs = ks.map kV
  | [], _, .nil => rfl
  | k :: ks, _, .cons h r => by
    rw [RepAll.strs_inv r]
    cases k with
    | inl i =>
      have h' : Rep M F _ (.int i) := h
      cases h'
      rfl
    | inr s =>
      have h' : Rep M F _ (.str s) := h
      cases h'
      rfl
theorem RepAll.ints_inv : ∀ {ns : List Int} {vs : List V}, RepAll M F vs (ns.map PyData.int) → vs = ns.map V.int
  | [], _, .nil => rfl
  | k :: ks, _, .cons h r => by
    rw [RepAll.ints_inv r]
    cases h
    rfl
end

/-! ### views -/
def viewD (Γ : Gam) : Val → Option D
  | .f d => some d
  | .b i => match Γ[i]? with
    | some (.one (.fz d)) => some d
    | some (.one (.ol ds)) => some (.list ds)
    | some (.vw ds) => some (.list ds)
    | _ => none
  | _ => none
/-- a list that is tracked -/
def viewL (Γ : Gam) : Val → Option (List D)
  | .f (.list ds) => some ds
  | .b i => match Γ[i]? with
    | some (.one (.fz (.list ds))) => some ds
    | some (.one (.ol ds)) => some ds
    | _ => none
  | _ => none
def viewK (Γ : Gam) : Val → Option (List (Key × D))
  | .f d => decK d
  | .b i => match Γ[i]? with
    | some (.one (.fz d)) => decK d
    | some (.one (.oK ds)) => some ds
    | _ => none
  | _ => none
def viewT (Γ : Gam) : Val → Option (List (List Key × D))
  | .f d => decT d
  | .b i => match Γ[i]? with
    | some (.one (.fz d)) => decT d
    | some (.one (.oT ds)) => some ds
    | _ => none
  | _ => none
section
variable {M : Pm} {Γ : Gam} {σ : L2.St} {F H : Hp} {own : Own} {x : V} {a : Val} {d : D}
theorem RepAll.dpH {cls : Str → Addr} {K : PySem.W.Frag} {F H : Hp} (e : Ex F H) {vs : List V} {ds : List D} (r : RepAll cls F vs ds) (p : PyData.plainAll ds = true) : DpAll K H vs ds := (RepAll.mono e r).dp p
theorem slotAt (s : StR M Γ σ F H own) {i : Nat} {v : V} {sl : Slot} (hv : σ[i]? = some (some v)) (h : Γ[i]? = some sl) : SlotR M F H (own i) (some (some v)) sl := by
  have := s.slot i sl h
  rw [hv] at this
  exact this
theorem view_dp (s : StR M Γ σ F H own) (h : ValRd M σ F x a) (e : viewD Γ a = some d) (p : d.plain = true) : Dp M.K H x d := by
  cases a with
  | f d0 =>
    simp only [viewD, Option.some.injEq] at e
    subst e
    exact (Rep.mono s.fh h).dp p
  | b i =>
    simp only [viewD] at e
    split at e
    · rename_i d0 hd
      cases e
      obtain ⟨v, h1, _, h2⟩ := slotAt s h hd
      cases h1
      exact (Rep.mono s.fh h2).dp p
    · rename_i ds hd
      cases e
      obtain ⟨v, h1, l, vs, h2, _, h3, h4⟩ := slotAt s h hd
      cases h1
      subst h2
      exact .lst (.of h3) (RepAll.dpH s.fh h4 (by simpa [PyData.plain] using p))
    · rename_i ds hd
      cases e
      obtain ⟨_, l, vs, h2, h3, h4⟩ := slotAt s h hd
      cases h2
      exact .lst (sqL_ex s.fh h3) (RepAll.dpH s.fh h4 (by simpa [PyData.plain] using p))
    · cases e
  | _ => cases e
theorem view_list {ds : List D} (s : StR M Γ σ F H own) (h : ValRd M σ F x a) (e : viewD Γ a = some (.list ds)) : ∃ l vs, x = .ref l ∧ SqL M.K H l vs ∧ RepAll M.cls F vs ds := by
  cases a with
  | f d0 =>
    simp only [viewD, Option.some.injEq] at e
    subst e
    obtain ⟨l, vs, h1, h2, h3⟩ := Rep.invL h
    exact ⟨l, vs, h1, .of (s.fh _ _ h2), h3⟩
  | b i =>
    simp only [viewD] at e
    split at e
    · rename_i d0 hd
      cases e
      obtain ⟨v, h1, _, h2⟩ := slotAt s h hd
      cases h1
      obtain ⟨l, vs, h1, h2, h3⟩ := Rep.invL h2
      exact ⟨l, vs, h1, .of (s.fh _ _ h2), h3⟩
    · rename_i ds hd
      cases e
      obtain ⟨v, h1, l, vs, h2, _, h3, h4⟩ := slotAt s h hd
      cases h1
      subst h2
      exact ⟨l, vs, rfl, .of h3, h4⟩
    · rename_i ds hd
      cases e
      obtain ⟨_, l, vs, h2, h3, h4⟩ := slotAt s h hd
      cases h2
      exact ⟨l, vs, rfl, sqL_ex s.fh h3, h4⟩
    · cases e
  | _ => cases e
theorem view_tup {ds : List D} (s : StR M Γ σ F H own) (h : ValRd M σ F x a) (e : viewD Γ a = some (.tuple ds)) : ∃ l vs, x = .ref l ∧ (Rep M.cls F (.ref l) (.tuple ds) ∧ Rd F l (.tup vs)) ∧ SqT M.K H l vs ∧ RepAll M.cls F vs ds := by
  cases a with
  | f d0 =>
    simp only [viewD, Option.some.injEq] at e
    subst e
    obtain ⟨l, vs, h1, h2, h3⟩ := Rep.invU h
    subst h1
    exact ⟨l, vs, rfl, ⟨h, h2⟩, .inl (rd_up s.fh h2), h3⟩
  | b i =>
    simp only [viewD] at e
    split at e
    · rename_i d0 hd
      cases e
      obtain ⟨v, h1, _, h2⟩ := slotAt s h hd
      cases h1
      obtain ⟨l, vs, h1, h4, h3⟩ := Rep.invU h2
      subst h1
      exact ⟨l, vs, rfl, ⟨h2, h4⟩, .inl (rd_up s.fh h4), h3⟩
    · cases e
    · cases e
    · cases e
  | _ => cases e
theorem view_L {ds : List D} (s : StR M Γ σ F H own) (h : ValRd M σ F x a) (e : viewL Γ a = some ds) : ∃ l vs, x = .ref l ∧ H l = some (.lst vs) ∧ RepAll M.cls F vs ds := by
  unfold viewL at e
  split at e
  · cases e
    obtain ⟨l, vs, h1, h2, h3⟩ := Rep.invL h
    exact ⟨l, vs, h1, s.fh _ _ h2, h3⟩
  · split at e
    · rename_i ds0 hd
      cases e
      obtain ⟨v, h1, _, h2⟩ := slotAt s h hd
      cases h1
      obtain ⟨l, vs, h1, h2, h3⟩ := Rep.invL h2
      exact ⟨l, vs, h1, s.fh _ _ h2, h3⟩
    · rename_i ds0 hd
      cases e
      obtain ⟨v, h1, l, vs, h2, _, h3, h4⟩ := slotAt s h hd
      cases h1
      exact ⟨l, vs, h2, h3, h4⟩
    · cases e
  · cases e
theorem view_K {ds : List (Key × D)} (s : StR M Γ σ F H own) (h : ValRd M σ F x a) (e : viewK Γ a = some ds) : ∃ l kvs, x = .ref l ∧ Rd H l (.dK kvs) ∧ kvs.map (·.1) = ds.map (·.1) ∧ RepAll M.cls F (kvs.map (·.2)) (ds.map (·.2)) := by
  unfold viewK at e
  split at e
  · obtain ⟨l, vs, h1, h2, h3⟩ := Rep.invKF h e
    exact ⟨l, vs, h1, rd_up s.fh h2, h3⟩
  · split at e
    · rename_i ds0 hd
      obtain ⟨v, h1, _, h2⟩ := slotAt s h hd
      cases h1
      obtain ⟨l, vs, h1, h2, h3⟩ := Rep.invKF h2 e
      exact ⟨l, vs, h1, rd_up s.fh h2, h3⟩
    · rename_i ds0 hd
      cases e
      obtain ⟨v, h1, l, vs, h2, _, h3, h4⟩ := slotAt s h hd
      cases h1
      exact ⟨l, vs, h2, .inl h3, h4⟩
    · cases e
  · cases e
theorem view_T {ds : List (List Key × D)} (s : StR M Γ σ F H own) (h : ValRd M σ F x a) (e : viewT Γ a = some ds) : ∃ l kvs, x = .ref l ∧ H l = some (.dT kvs) ∧ kvs.map (·.1) = ds.map (·.1) ∧ RepAll M.cls F (kvs.map (·.2)) (ds.map (·.2)) := by
  unfold viewT at e
  split at e
  · rw [decT_some e] at h
    obtain ⟨l, vs, h1, h2, h3⟩ := Rep.invT h
    exact ⟨l, vs, h1, s.fh _ _ h2, h3⟩
  · split at e
    · rename_i ds0 hd
      obtain ⟨v, h1, _, h2⟩ := slotAt s h hd
      cases h1
      rw [decT_some e] at h2
      obtain ⟨l, vs, h1, h2, h3⟩ := Rep.invT h2
      exact ⟨l, vs, h1, s.fh _ _ h2, h3⟩
    · rename_i ds0 hd
      cases e
      obtain ⟨v, h1, l, vs, h2, _, h3, h4⟩ := slotAt s h hd
      cases h1
      exact ⟨l, vs, h2, h3, h4⟩
    · cases e
  · cases e
/-! ### what an operator hands back -/
variable {F0 H0 : Hp} {own0 : Own} {E : XK} {Q : VK} {v : V}
theorem post_now (s : StR M Γ σ F H own) (st : Step F0 H0 own0 F H own) (p : PostG (relV M) M E σ F0 H0 own0 Q (.ok (.f d) Γ)) (r : Rep M.cls F v d) : Q v H := p v F H own s st r
theorem post_newO {o : HO} {f : Fld} {q : Addr} (s : StR M Γ σ F H own) (st : Step F0 H0 own0 F H own) (p : PostG (relV M) M E σ F0 H0 own0 Q (.ok (.n f) Γ)) (hq : H q = none)
    (h : FldR M F (upd H q o) (fun a => a = q) (.ref q) f) : Q (.ref q) (upd H q o) := by
  have g : Grow F H F (upd H q o) := .lay s.fh hq
  refine p _ F _ own (s.grow g) (st.trans (g.step own)) ⟨_, h, fun a ha => ?_⟩
  subst ha
  refine ⟨s.fh.back hq, by rw [upd_same]; simp, fun i hi => s.there i _ hi hq, ?_⟩
  cases e : H0 a with
  | none => rfl
  | some u => exact absurd hq (st.al a (by rw [e]; simp))
theorem post_newL {vs : List V} {ds : List D} {q : Addr} (s : StR M Γ σ F H own) (st : Step F0 H0 own0 F H own) (p : PostG (relV M) M E σ F0 H0 own0 Q (.ok (.n (.ol ds)) Γ)) (hq : H q = none) (r : RepAll M.cls F vs ds) : Q (.ref q) (upd H q (.lst vs)) :=
  post_newO s st p hq ⟨q, vs, rfl, fun _ => .rfl, upd_same, r⟩
theorem post_newU {vs : List V} {ds : List D} {q : Addr} (s : StR M Γ σ F H own) (st : Step F0 H0 own0 F H own) (p : PostG (relV M) M E σ F0 H0 own0 Q (.ok (.f (.tuple ds)) Γ)) (hq : H q = none) (r : RepAll M.cls F vs ds) : Q (.ref q) (upd H q (.tup vs)) := by
  have g : Grow F H (upd F q (.tup vs)) (upd H q (.tup vs)) := .new s.fh hq
  exact p _ _ _ own (s.grow g) (st.trans (g.step own)) (.tup upd_same (RepAll.mono g.ff r))
end

/-! ### operators on ints -/
def intF (C : Int → Int → Bool) (g : Int → Int → D) (Γ : Gam) (a b : Val) : R Val := match a, b with
  | .f (.int i), .f (.int j) => if C i j = true then .ok (.f (g i j)) Γ else .stuck
  | _, _ => .stuck
@[simp] theorem intF_ii {C : Int → Int → Bool} {g : Int → Int → D} {Γ : Gam} {i j : Int} : intF C g Γ (.f (.int i)) (.f (.int j)) = if C i j = true then .ok (.f (g i j)) Γ else .stuck := rfl
def yes2 : Int → Int → Bool := fun _ _ => true
@[simp] theorem yes2_eq (i j : Int) : yes2 i j = true := rfl
def dV : D → V
  | .bool b => .bl b
  | .int i => .int i
  | .str x => .str x
  | _ => .non
section
variable {M : Pm}
theorem intF_inv {C : Int → Int → Bool} {g : Int → Int → D} {Γ : Gam} {a b : Val} {r : R Val} (h : intF C g Γ a b = r) (n : r ≠ .stuck) : ∃ i j, a = .f (.int i) ∧ b = .f (.int j) ∧ C i j = true ∧ r = .ok (.f (g i j)) Γ := by
  unfold intF at h
  split at h
  · rename_i i j
    by_cases c : C i j = true
    · rw [if_pos c] at h
      exact ⟨i, j, rfl, rfl, c, h.symm⟩
    · rw [if_neg c] at h
      exact absurd h.symm n
  · exact absurd h.symm n
theorem post_ns {E : XK} {σ : L2.St} {F H : Hp} {own : Own} {α β : Type} {rel : Rel β α} {Q : β → Hp → Prop} {r : R α} (p : PostG rel M E σ F H own Q r) : r ≠ .stuck := fun e => by
  rw [e] at p
  exact p
theorem os_int {C : Int → Int → Bool} {C' : Int → Int → Prop} {g : Int → Int → D} {g' : Int → Int → V} (hC : ∀ i j, C i j = true → C' i j) (hg : ∀ F i j, Rep M.cls F (g' i j) (g i j)) : OpS M (rI C' g') (intF C g) := by
  intro E Γ σ F0 H0 own0 F H own x y a b Q s st rx ry p
  obtain ⟨i, j, rfl, rfl, c, e⟩ := intF_inv rfl (post_ns p)
  rw [e] at p
  cases rx
  cases ry
  exact ⟨i, j, rfl, rfl, hC i j c, post_now s st p (hg F i j)⟩
theorem os_int0 {g : Int → Int → D} {g' : Int → Int → V} (hg : ∀ F i j, Rep M.cls F (g' i j) (g i j)) : OpS M (rI0 g') (intF yes2 g) := by
  intro E Γ σ F0 H0 own0 F H own x y a b Q s st rx ry p
  obtain ⟨i, j, rfl, rfl, c, e⟩ := intF_inv rfl (post_ns p)
  rw [e] at p
  cases rx
  cases ry
  exact ⟨i, j, rfl, rfl, post_now s st p (hg F i j)⟩
end
def subF := intF yes2 fun i j => .int (i - j)
def andF := intF yes2 fun i j => .int (Builtin.bitAnd i j)
def orF := intF yes2 fun i j => .int (Builtin.bitOr i j)
def xorF := intF yes2 fun i j => .int (Builtin.bitXor i j)
def leF := intF yes2 fun i j => .bool (decide (i ≤ j))
def gtF := intF yes2 fun i j => .bool (decide (j < i))
def geF := intF yes2 fun i j => .bool (decide (j ≤ i))
def fdivF := intF (fun _ j => decide (0 < j ∧ j < 1073741824)) fun i j => .int (i / j)
def modF := intF (fun _ j => decide (0 < j)) fun i j => .int (i % j)
def powC : Int → Int → Bool := fun i j => decide (0 ≤ j ∧ j ≤ 1000000 ∧ i.natAbs < 2 ^ 64)
def powF := intF powC fun i j => .int (i ^ j.toNat)
def shlF := intF powC fun i j => .int (i * 2 ^ j.toNat)
def shrF := intF (fun _ j => decide (0 ≤ j)) fun i j => .int (i / 2 ^ j.toNat)
section
variable {X : Cx} {M : Pm}
theorem os_sub : OpS M (rI0 fun i j => .int (i - j)) subF := os_int0 fun _ i j => .int _
theorem os_and : OpS M (rI0 fun i j => .int (Builtin.bitAnd i j)) andF := os_int0 fun _ i j => .int _
theorem os_or : OpS M (rI0 fun i j => .int (Builtin.bitOr i j)) orF := os_int0 fun _ i j => .int _
theorem os_xor : OpS M (rI0 fun i j => .int (Builtin.bitXor i j)) xorF := os_int0 fun _ i j => .int _
theorem os_le : OpS M (rI0 fun i j => .bl (decide (i ≤ j))) leF := os_int0 fun _ i j => .bl _
theorem os_gt : OpS M (rI0 fun i j => .bl (decide (j < i))) gtF := os_int0 fun _ i j => .bl _
theorem os_ge : OpS M (rI0 fun i j => .bl (decide (j ≤ i))) geF := os_int0 fun _ i j => .bl _
theorem os_fdiv : OpS M (rI CDiv fun i j => .int (i / j)) fdivF := os_int (fun i j h => (of_decide_eq_true h : 0 < j ∧ j < 1073741824)) fun _ i j => .int _
theorem os_mod : OpS M (rI (fun _ j => 0 < j) fun i j => .int (i % j)) modF := os_int (fun i j h => of_decide_eq_true h) fun _ i j => .int _
theorem os_pow : OpS M (rI CPow fun i j => .int (i ^ j.toNat)) powF := os_int (fun i j h => (of_decide_eq_true h : 0 ≤ j ∧ j ≤ 1000000 ∧ i.natAbs < 2 ^ 64)) fun _ i j => .int _
theorem os_shl : OpS M (rI CPow fun i j => .int (i * 2 ^ j.toNat)) shlF := os_int (fun i j h => (of_decide_eq_true h : 0 ≤ j ∧ j ≤ 1000000 ∧ i.natAbs < 2 ^ 64)) fun _ i j => .int _
theorem os_shr : OpS M (rI (fun _ j => 0 ≤ j) fun i j => .int (i / 2 ^ j.toNat)) shrF := os_int (fun i j h => of_decide_eq_true h) fun _ i j => .int _
end
end DL
end

section
set_option Elab.async false
set_option linter.all false
set_option maxRecDepth 100000
set_option maxHeartbeats 1000000
/-! DL4: +, *, ==, <, in, is; subscripts, slices; truth. -/
namespace DL
open PySem PySem.Spec PyProof.Rows L2

/-! ### + -/
def addF (Γ : Gam) (a b : Val) : R Val := match a, b with
  | .f (.int i), .f (.int j) => .ok (.f (.int (i + j))) Γ
  | .f (.str x), .f (.str y) => if x.length + y.length ≤ sizeLine then .ok (.f (.str (x ++ y))) Γ else .stuck
  | .f (.tuple xs), .f (.tuple ys) => if xs.length + ys.length ≤ sizeLine then .ok (.f (.tuple (xs ++ ys))) Γ else .stuck
  | a, b => match viewL Γ a, viewL Γ b with
    | some xs, some ys => if xs.length + ys.length ≤ sizeLine then .ok (.n (.ol (xs ++ ys))) Γ else .stuck
    | _, _ => .stuck
abbrev rStr : R2 := fun x y H Q => ∃ i j, x = .str i ∧ y = .str j ∧ i.length + j.length ≤ sizeLine ∧ Q (.str (i ++ j)) H
abbrev rAddAll (K : PySem.W.Frag) : R2 := fun x y H Q => (rI0 (fun i j => .int (i + j)) x y H Q ∨ rStr x y H Q) ∨ (rCatA K x y H Q ∨ rCat x y H Q)
theorem op_addAll {X : Cx} : OpR X (binaryOp .Add) (rAddAll X.K) := (op_add.or op_add_str).or (op_catA.or op_cat)
theorem os_add {M : Pm} : OpS M (rAddAll M.K) addF := by
  intro E Γ σ F0 H0 own0 F H own x y a b Q s st rx ry p
  unfold addF at p
  split at p
  · cases rx
    cases ry
    exact .inl (.inl ⟨_, _, rfl, rfl, post_now s st p (.int _)⟩)
  · split at p
    · rename_i h
      cases rx
      cases ry
      exact .inl (.inr ⟨_, _, rfl, rfl, h, post_now s st p (.str _)⟩)
    · exact p.elim
  · split at p
    · rename_i xs ys h
      obtain ⟨l, vs, rfl, h1, r1⟩ := Rep.invU rx
      obtain ⟨k, ws, rfl, h2, r2⟩ := Rep.invU ry
      have e1 := r1.length
      have e2 := r2.length
      refine .inr (.inl ⟨l, k, vs, ws, rfl, rfl, .inl (rd_up s.fh h1), .inl (rd_up s.fh h2), by rw [e1, e2]; exact h, fun e => ?_, fun _ e => ?_, fun _ _ q hq => post_newU s st p hq (r1.append r2)⟩)
      · subst e
        cases r1
        exact post_now s st p ry
      · subst e
        cases r2
        rw [List.append_nil] at p
        exact post_now s st p rx
    · exact p.elim
  · split at p
    · rename_i xs ys hx hy
      split at p
      · rename_i h
        obtain ⟨l, vs, rfl, h1, r1⟩ := view_L s rx hx
        obtain ⟨k, ws, rfl, h2, r2⟩ := view_L s ry hy
        have e1 := r1.length
        have e2 := r2.length
        exact .inr (.inr ⟨l, k, vs, ws, rfl, rfl, h1, h2, by rw [e1, e2]; exact h, fun q hq => post_newL s st p hq (r1.append r2)⟩)
      · exact p.elim
    · exact p.elim

/-! ### * -/
theorem tooLong_of {n : Nat} (h : n ≤ 1000 * 1000) : Builtin.Str.tooLong n = false := by
  unfold Builtin.Str.tooLong
  simp only [decide_eq_false_iff_not, Nat.not_lt]
  exact Nat.le_trans h (by decide)
def mulOkB (x : Str) (n : Int) : Bool := decide (1 ≤ n) && decide (n ≤ 1000) && decide (1 ≤ x.length) && decide (x.length ≤ 1000)
theorem mulOk_of {x : Str} {n : Int} (h : mulOkB x n = true) : MulOk x n := by
  simp only [mulOkB, Bool.and_eq_true, decide_eq_true_eq] at h
  obtain ⟨⟨⟨h1, h2⟩, h3⟩, h4⟩ := h
  refine ⟨by simp; omega, fun _ _ => ?_, fun _ _ => ?_⟩
  · have : (1000 : Int) ≤ (2 ^ 63 - 1) / n := by
      have : n * 1000 ≤ 2 ^ 63 - 1 := by omega
      exact Int.le_ediv_of_mul_le (by omega) (by omega)
    omega
  · have : x.length * n.toNat ≤ 1000 * 1000 := Nat.mul_le_mul h4 (by omega)
    exact tooLong_of this
abbrev rMulS : R2 := fun x y H Q => ∃ z i, x = .str z ∧ y = .int i ∧ mulOkB z i = true ∧ Q (.str (Txt.mul z i)) H
theorem op_mulS {X : Cx} : OpR X (binaryOp .Mult) rMulS := by
  intro pins s σ H x y v u Q I rx ry h
  obtain ⟨z, i, rfl, rfl, ok, q⟩ := h
  obtain ⟨t, rfl⟩ := rx
  obtain ⟨t', rfl⟩ := ry
  exact SB.mul (mulOk_of ok) fun t' k => ⟨.str _, H, I.tok _, ⟨_, rfl⟩, q⟩
def mulC (i j : Int) : Bool := decide (-(2 ^ 64) < i ∧ i < 2 ^ 64) || decide (-(2 ^ 64) < j ∧ j < 2 ^ 64)
def mulF (Γ : Gam) (a b : Val) : R Val := match a, b with
  | .f (.int i), .f (.int j) => if mulC i j = true then .ok (.f (.int (i * j))) Γ else .stuck
  | .f (.str x), .f (.int j) => if mulOkB x j = true then .ok (.f (.str (Txt.mul x j))) Γ else .stuck
  | a, .f (.int k) => match viewL Γ a with
    | some xs => if -(2 ^ 63) ≤ k ∧ k < 2 ^ 63 ∧ xs.length * k.toNat ≤ sizeLine then .ok (.n (.ol (List.replicate k.toNat xs).flatten)) Γ else .stuck
    | none => .stuck
  | _, _ => .stuck
theorem RepAll.rep {cls : Str → Addr} {F : Hp} {vs : List V} {ds : List D} (r : RepAll cls F vs ds) : ∀ n : Nat, RepAll cls F (List.replicate n vs).flatten (List.replicate n ds).flatten
  | 0 => .nil
  | n + 1 => by
    rw [List.replicate_succ, List.replicate_succ, List.flatten_cons, List.flatten_cons]
    exact r.append (RepAll.rep r n)
abbrev rMulAll : R2 := fun x y H Q => (rI CMul (fun i j => .int (i * j)) x y H Q ∨ rMulS x y H Q) ∨ rRep x y H Q
theorem op_mulAll {X : Cx} : OpR X (binaryOp .Mult) rMulAll := (op_mul.or op_mulS).or op_rep
theorem os_mul {M : Pm} : OpS M rMulAll mulF := by
  intro E Γ σ F0 H0 own0 F H own x y a b Q s st rx ry p
  unfold mulF at p
  split at p
  · split at p
    · rename_i h
      cases rx
      cases ry
      simp only [mulC, Bool.or_eq_true, decide_eq_true_eq] at h
      exact .inl (.inl ⟨_, _, rfl, rfl, h, post_now s st p (.int _)⟩)
    · exact p.elim
  · split at p
    · rename_i h
      cases rx
      cases ry
      exact .inl (.inr ⟨_, _, rfl, rfl, h, post_now s st p (.str _)⟩)
    · exact p.elim
  · split at p
    · rename_i xs hx
      split at p
      · rename_i h
        obtain ⟨l, vs, rfl, h1, r1⟩ := view_L s rx hx
        cases ry
        have e1 := r1.length
        exact .inr ⟨l, _, vs, rfl, rfl, h1, h.1, h.2.1, by rw [e1]; exact h.2.2, fun q hq => post_newL s st p hq (r1.rep _)⟩
      · exact p.elim
    · exact p.elim
  · exact p.elim

/-! ### == and < of data -/
def okE (d e : D) : Bool := d.plain && e.plain && (decide (d.depth ≤ 60) || decide (e.depth ≤ 60))
abbrev rEqP (K : PySem.W.Frag) (neg : Bool) : R2 := fun x y H Q => ∃ d e, Dp K H x d ∧ Dp K H y e ∧ okE d e = true ∧ Q (.bl (if neg then !PyData.eqv d e else PyData.eqv d e)) H
theorem okE_min {d e : D} {u : Nat} (h : okE d e = true) (hu : u + 64 < cLine) : d.plain = true ∧ e.plain = true ∧ u + min d.depth e.depth < cLine := by
  simp only [okE, Bool.and_eq_true, Bool.or_eq_true, decide_eq_true_eq] at h
  refine ⟨h.1.1, h.1.2, ?_⟩
  have := h.2
  omega
theorem op_eqP {X : Cx} (hu : X.A.units + 64 < cLine) : OpR X (compareOp .Eq) (rEqP X.K false) := by
  intro pins s σ H x y v u Q I rx ry h
  obtain ⟨d, e, hd, he, ok, q⟩ := h
  obtain ⟨as, r1⟩ := Dp.reads I d x v hd rx
  obtain ⟨bs, r2⟩ := Dp.reads I e y u he ry
  obtain ⟨h1, h2, h3⟩ := okE_min ok hu
  exact SeqAt.eq_plain r1 r2 h1 h2 h3 ⟨.bl _, H, I, rfl, q⟩
theorem op_neP {X : Cx} (hu : X.A.units + 64 < cLine) : OpR X (compareOp .NotEq) (rEqP X.K true) := by
  intro pins s σ H x y v u Q I rx ry h
  obtain ⟨d, e, hd, he, ok, q⟩ := h
  obtain ⟨as, r1⟩ := Dp.reads I d x v hd rx
  obtain ⟨bs, r2⟩ := Dp.reads I e y u he ry
  obtain ⟨h1, h2, h3⟩ := okE_min ok hu
  exact SeqAt.ne_plain r1 r2 h1 h2 h3 ⟨.bl _, H, I, rfl, q⟩
def eqF (neg : Bool) (Γ : Gam) (a b : Val) : R Val := match viewD Γ a, viewD Γ b with
  | some d, some e => if okE d e = true then .ok (.f (.bool (if neg then !PyData.eqv d e else PyData.eqv d e))) Γ else .stuck
  | _, _ => .stuck
theorem os_eq {M : Pm} (neg : Bool) : OpS M (rEqP M.K neg) (eqF neg) := by
  intro E Γ σ F0 H0 own0 F H own x y a b Q s st rx ry p
  unfold eqF at p
  split at p
  · rename_i d e hd he
    split at p
    · rename_i ok
      have ok' := ok
      simp only [okE, Bool.and_eq_true] at ok'
      exact ⟨d, e, view_dp s rx hd ok'.1.1, view_dp s ry he ok'.1.2, ok, post_now s st p (.bl _)⟩
    · exact p.elim
  · exact p.elim
def okL (d e : D) : Bool := PySem.W.alike d e && d.plain && e.plain && !(match d with | .none => true | _ => false) && (decide (d.depth ≤ 60) || decide (e.depth ≤ 60))
abbrev rLtP (K : PySem.W.Frag) : R2 := fun x y H Q => ∃ d e, Dp K H x d ∧ Dp K H y e ∧ okL d e = true ∧ Q (.bl (PySem.W.dataLt d e)) H
theorem op_ltP {X : Cx} (hu : X.A.units + 64 < cLine) : OpR X (compareOp .Lt) (rLtP X.K) := by
  intro pins s σ H x y v u Q I rx ry h
  obtain ⟨d, e, hd, he, ok, q⟩ := h
  obtain ⟨as, r1⟩ := Dp.reads I d x v hd rx
  obtain ⟨bs, r2⟩ := Dp.reads I e y u he ry
  simp only [okL, Bool.and_eq_true, Bool.or_eq_true, decide_eq_true_eq] at ok
  refine PySem.W.rcLt_alike d e X.A s v u as bs r1 r2 ok.1.1.1.1 ?_ ?_ _ _ _ _ ⟨.bl _, H, I, rfl, q⟩
  · rintro rfl
    simp at ok
  · have := ok.2
    omega
def ltF (Γ : Gam) (a b : Val) : R Val := match viewD Γ a, viewD Γ b with
  | some d, some e => if okL d e = true then .ok (.f (.bool (PySem.W.dataLt d e))) Γ else .stuck
  | _, _ => .stuck
theorem os_lt {M : Pm} : OpS M (rLtP M.K) ltF := by
  intro E Γ σ F0 H0 own0 F H own x y a b Q s st rx ry p
  unfold ltF at p
  split at p
  · rename_i d e hd he
    split at p
    · rename_i ok
      have ok' := ok
      simp only [okL, Bool.and_eq_true] at ok'
      exact ⟨d, e, view_dp s rx hd ok'.1.1.1.2, view_dp s ry he ok'.1.1.2, ok, post_now s st p (.bl _)⟩
    · exact p.elim
  · exact p.elim
/-! ### in -/
def okI (ds : List D) (d : D) : Bool := d.plain && PyData.plainAll ds && (decide (d.depth ≤ 60) || decide (PyData.depthAll ds ≤ 60))
abbrev rInP (K : PySem.W.Frag) (neg : Bool) : R2 := fun x y H Q => ∃ d ds, Dp K H x d ∧ (Dp K H y (.list ds) ∨ Dp K H y (.tuple ds)) ∧ okI ds d = true ∧ Q (.bl (if neg then !(ds.any fun z => PyData.eqv z d) else ds.any fun z => PyData.eqv z d)) H
theorem op_inP {X : Cx} (hu : X.A.units + 64 < cLine) : OpR X (compareOp .In) (rInP X.K false) := by
  intro pins s σ H x y v u Q I rx ry h
  obtain ⟨d, ds, hd, he, ok, q⟩ := h
  obtain ⟨as, r1⟩ := Dp.reads I d x v hd rx
  simp only [okI, Bool.and_eq_true, Bool.or_eq_true, decide_eq_true_eq] at ok
  have hm : X.A.units + 1 + min (PyData.depthAll ds) d.depth < cLine := by
    have := ok.2
    omega
  rcases he with he | he
  · obtain ⟨bs, r2⟩ := Dp.reads I (.list ds) y u he ry
    exact SeqAt.in_list_data r2 r1 ok.1.2 ok.1.1 hm ⟨.bl _, H, I, rfl, q⟩
  · obtain ⟨bs, r2⟩ := Dp.reads I (.tuple ds) y u he ry
    exact SeqAt.in_tuple_data r2 r1 ok.1.2 ok.1.1 hm ⟨.bl _, H, I, rfl, q⟩
theorem op_notInP {X : Cx} (hu : X.A.units + 64 < cLine) : OpR X (compareOp .NotIn) (rInP X.K true) := by
  intro pins s σ H x y v u Q I rx ry h
  obtain ⟨d, ds, hd, he, ok, q⟩ := h
  obtain ⟨as, r1⟩ := Dp.reads I d x v hd rx
  simp only [okI, Bool.and_eq_true, Bool.or_eq_true, decide_eq_true_eq] at ok
  have hm : X.A.units + 1 + min (PyData.depthAll ds) d.depth < cLine := by
    have := ok.2
    omega
  rcases he with he | he
  · obtain ⟨bs, r2⟩ := Dp.reads I (.list ds) y u he ry
    exact SeqAt.notIn_list_data r2 r1 ok.1.2 ok.1.1 hm ⟨.bl _, H, I, rfl, q⟩
  · obtain ⟨bs, r2⟩ := Dp.reads I (.tuple ds) y u he ry
    exact SeqAt.notIn_tuple_data r2 r1 ok.1.2 ok.1.1 hm ⟨.bl _, H, I, rfl, q⟩
abbrev rInDict (neg : Bool) : R2 := fun x y H Q => ∃ a o, y = .ref a ∧ DGet H a x o ∧ Q (.bl (if neg then !o.isSome else o.isSome)) H
theorem op_inDict {X : Cx} (hu : X.A.units + 64 < cLine) : OpR X (compareOp .In) (rInDict false) := by
  intro pins s σ H x y v u Q I rx ry h
  obtain ⟨a, o, rfl, g, q⟩ := h
  cases ry
  exact d_in (by omega) I g rx fun s3 I3 => ⟨.bl o.isSome, H, I3, rfl, q⟩
theorem op_notInDict {X : Cx} (hu : X.A.units + 64 < cLine) : OpR X (compareOp .NotIn) (rInDict true) := by
  intro pins s σ H x y v u Q I rx ry h
  obtain ⟨a, o, rfl, g, q⟩ := h
  cases ry
  exact d_notIn (by omega) I g rx fun s3 I3 => ⟨.bl (!o.isSome), H, I3, rfl, q⟩
abbrev rInSign (neg : Bool) : R2 := fun x y H Q => ∃ (c : Nat) (z : Str), x = .str ⟨#[c]⟩ ∧ y = .str z ∧ Q (.bl (if neg then !decide (c ∈ z.cps.toList) else decide (c ∈ z.cps.toList))) H
abbrev rInAll (K : PySem.W.Frag) (neg : Bool) : R2 := fun x y H Q => (rInP K neg x y H Q ∨ rInDict neg x y H Q) ∨ rInSign neg x y H Q
theorem op_inAll {X : Cx} (hu : X.A.units + 64 < cLine) : OpR X (compareOp .In) (rInAll X.K false) := ((op_inP hu).or (op_inDict hu)).or op_in_sign
theorem op_notInAll {X : Cx} (hu : X.A.units + 64 < cLine) : OpR X (compareOp .NotIn) (rInAll X.K true) := ((op_notInP hu).or (op_notInDict hu)).or op_notIn_sign
def signOf (z : Str) : Option Nat := match z.cps.toList with
  | [c] => some c
  | _ => none
theorem signOf_some {z : Str} {c : Nat} (h : signOf z = some c) : z = ⟨#[c]⟩ := by
  unfold signOf at h
  split at h
  · rename_i c' hc
    cases h
    obtain ⟨⟨l⟩⟩ := z
    simp at hc
    subst hc
    rfl
  · cases h
@[simp] theorem signOf_one (c : Nat) : signOf ⟨#[c]⟩ = some c := rfl
/-! ### dicts by keys -/
section
variable {κ α β : Type} [DecidableEq κ]
def look (l : List (κ × α)) (k : κ) : Option α := match l with
  | [] => none
  | p :: r => if p.1 = k then some p.2 else look r k
def put (l : List (κ × α)) (k : κ) (v : α) : List (κ × α) := if (l.any fun kv => decide (kv.1 = k)) = true then l.map (fun kv => if kv.1 = k then (kv.1, v) else kv) else l ++ [(k, v)]
end
theorem valV_look {κ : Type} [DecidableEq κ] : ∀ (l : List (κ × V)) (k : κ), valV l k = look l k
  | [], k => rfl
  | p :: r, k => by
    by_cases h : p.1 = k
    · rw [valV_pos h, look, if_pos h]
    · rw [valV_neg h, look, if_neg h, valV_look r k]
theorem putK_put {κ : Type} [DecidableEq κ] (l : List (κ × V)) (k : κ) (v : V) : putK l k v = put l k v := rfl
def RepO (cls : Str → Addr) (F : Hp) : Option V → Option D → Prop
  | some v, some d => Rep cls F v d
  | none, none => True
  | _, _ => False
section
variable {κ : Type} [DecidableEq κ] {cls : Str → Addr} {F : Hp}
theorem look_rep : ∀ {kvs : List (κ × V)} {kds : List (κ × D)}, kvs.map (·.1) = kds.map (·.1) → RepAll cls F (kvs.map (·.2)) (kds.map (·.2)) → ∀ k, RepO cls F (look kvs k) (look kds k)
  | [], [], _, _, k => trivial
  | [], _ :: _, h, _, k => by simp at h
  | _ :: _, [], h, _, k => by simp at h
  | p :: r, q :: t, h, hr, k => by
    simp only [List.map_cons, List.cons.injEq] at h
    simp only [List.map_cons] at hr
    cases hr with
    | cons h1 h2 =>
      unfold look
      rw [h.1]
      by_cases e : q.1 = k
      · rw [if_pos e, if_pos e]
        exact h1
      · rw [if_neg e, if_neg e]
        exact look_rep h.2 h2 k
theorem any_keys {α β : Type} : ∀ {kvs : List (κ × α)} {kds : List (κ × β)}, kvs.map (·.1) = kds.map (·.1) → ∀ k, (kvs.any fun kv => decide (kv.1 = k)) = (kds.any fun kv => decide (kv.1 = k))
  | [], [], _, _ => rfl
  | [], _ :: _, h, _ => by simp at h
  | _ :: _, [], h, _ => by simp at h
  | p :: r, q :: t, h, k => by
    simp only [List.map_cons, List.cons.injEq] at h
    rw [List.any_cons, List.any_cons, h.1, any_keys h.2 k]
theorem put_keys {α β : Type} {kvs : List (κ × α)} {kds : List (κ × β)} (h : kvs.map (·.1) = kds.map (·.1)) (k : κ) (v : α) (d : β) : (put kvs k v).map (·.1) = (put kds k d).map (·.1) := by
  have hk : ∀ {γ : Type} (l : List (κ × γ)) (x : γ), (l.map (fun kv => if kv.1 = k then (kv.1, x) else kv)).map (·.1) = l.map (·.1) := fun l x => by
    rw [List.map_map]
    apply List.map_congr_left
    intro p _
    by_cases e : p.1 = k <;> simp [e]
  unfold put
  rw [any_keys h k]
  split
  · rw [hk, hk, h]
  · rw [List.map_append, List.map_append, h]
    rfl
theorem mapPut_rep : ∀ {kvs : List (κ × V)} {kds : List (κ × D)}, kvs.map (·.1) = kds.map (·.1) → RepAll cls F (kvs.map (·.2)) (kds.map (·.2)) → ∀ (k : κ) {v : V} {d : D}, Rep cls F v d →
    RepAll cls F ((kvs.map (fun kv => if kv.1 = k then (kv.1, v) else kv)).map (·.2)) ((kds.map (fun kv => if kv.1 = k then (kv.1, d) else kv)).map (·.2))
  | [], [], _, _, _, _, _, _ => .nil
  | [], _ :: _, h, _, _, _, _, _ => by simp at h
  | _ :: _, [], h, _, _, _, _, _ => by simp at h
  | p :: r, q :: t, h, hr, k, v, d, hv => by
    simp only [List.map_cons, List.cons.injEq] at h
    simp only [List.map_cons] at hr
    cases hr with
    | cons h1 h2 =>
      have ih := mapPut_rep h.2 h2 k hv
      simp only [List.map_cons]
      rw [h.1]
      by_cases e : q.1 = k
      · rw [if_pos e, if_pos e]
        exact .cons hv ih
      · rw [if_neg e, if_neg e]
        exact .cons h1 ih
theorem put_rep {kvs : List (κ × V)} {kds : List (κ × D)} (h : kvs.map (·.1) = kds.map (·.1)) (hr : RepAll cls F (kvs.map (·.2)) (kds.map (·.2))) (k : κ) {v : V} {d : D} (hv : Rep cls F v d) :
    RepAll cls F ((put kvs k v).map (·.2)) ((put kds k d).map (·.2)) := by
  unfold put
  rw [any_keys h k]
  split
  · exact mapPut_rep h hr k hv
  · rw [List.map_append, List.map_append]
    exact hr.append (.cons hv .nil)
end
theorem RepO.isSome {cls : Str → Addr} {F : Hp} : ∀ {o : Option V} {p : Option D}, RepO cls F o p → o.isSome = p.isSome
  | some _, some _, _ => rfl
  | none, none, _ => rfl
def ng (neg b : Bool) : Bool := if neg then !b else b
@[simp] theorem ng_t (b : Bool) : ng true b = !b := rfl
@[simp] theorem ng_f (b : Bool) : ng false b = b := rfl
def inF (neg : Bool) (Γ : Gam) (a b : Val) : R Val := match viewD Γ b with
  | some (.list ds) => match viewD Γ a with
    | some d => if okI ds d = true then .ok (.f (.bool (ng neg (ds.any fun z => PyData.eqv z d)))) Γ else .stuck
    | none => .stuck
  | some (.tuple ds) => match viewD Γ a with
    | some d => if okI ds d = true then .ok (.f (.bool (ng neg (ds.any fun z => PyData.eqv z d)))) Γ else .stuck
    | none => .stuck
  | some (.str z) => match a with
    | .f (.str y) => match signOf y with
      | some c => .ok (.f (.bool (ng neg (decide (c ∈ z.cps.toList))))) Γ
      | none => .stuck
    | _ => .stuck
  | _ => match viewK Γ b with
    | some kds => match a with
      | .f d => match keyOf d with
        | some k => .ok (.f (.bool (ng neg (look kds k).isSome))) Γ
        | none => .stuck
      | _ => .stuck
    | none => match viewT Γ b with
      | some kds => match a with
        | .f d => match keyTOf d with
          | some k => .ok (.f (.bool (ng neg (look kds k).isSome))) Γ
          | none => .stuck
        | _ => .stuck
      | none => .stuck

theorem rep_key {cls : Str → Addr} {F : Hp} {v : V} {d : D} {k : Key} (r : Rep cls F v d) (h : keyOf d = some k) : v = kV k := by
  rw [keyOf_some h] at r
  cases k with
  | inl i =>
    have r' : Rep cls F v (.int i) := r
    cases r'
    rfl
  | inr s =>
    have r' : Rep cls F v (.str s) := r
    cases r'
    rfl
theorem rep_keyT {cls : Str → Addr} {F : Hp} {v : V} {d : D} {k : List Key} (r : Rep cls F v d) (h : keyTOf d = some k) : ∃ b, v = .ref b ∧ F b = some (.tup (k.map kV)) := by
  rw [keyTOf_some h] at r
  obtain ⟨b, vs, h1, h2, h3⟩ : ∃ a vs, v = .ref a ∧ F a = some (.tup vs) ∧ RepAll cls F vs (k.map keyD) := by
    have r' : Rep cls F v (.tuple (k.map keyD)) := r
    cases r' with
    | tup h1 h2 => exact ⟨_, _, rfl, h1, h2⟩
    | tupF h1 h3 h2 =>
      rw [keysOf_map] at h3
      cases h3
  rw [h3.strs_inv] at h2
  exact ⟨b, h1, h2⟩
theorem dget_k {cls : Str → Addr} {F H : Hp} {l : Addr} {kvs : List (Key × V)} {kds : List (Key × D)} {v : V} {d : D} {k : Key} (hl : Rd H l (.dK kvs)) (h1 : kvs.map (·.1) = kds.map (·.1)) (h2 : RepAll cls F (kvs.map (·.2)) (kds.map (·.2)))
    (r : Rep cls F v d) (h : keyOf d = some k) : ∃ o, DGet H l v o ∧ RepO cls F o (look kds k) := by
  rw [rep_key r h]
  refine ⟨valV kvs k, .inl ⟨kvs, k, hl, rfl, rfl⟩, ?_⟩
  rw [valV_look]
  exact look_rep h1 h2 k
theorem dget_t {cls : Str → Addr} {F H : Hp} (fh : Ex F H) {l : Addr} {kvs : List (List Key × V)} {kds : List (List Key × D)} {v : V} {d : D} {k : List Key} (hl : H l = some (.dT kvs)) (h1 : kvs.map (·.1) = kds.map (·.1)) (h2 : RepAll cls F (kvs.map (·.2)) (kds.map (·.2)))
    (r : Rep cls F v d) (h : keyTOf d = some k) : ∃ o, DGet H l v o ∧ RepO cls F o (look kds k) := by
  obtain ⟨b, rfl, hb⟩ := rep_keyT r h
  refine ⟨valV kvs k, .t hl (fh _ _ hb), ?_⟩
  rw [valV_look]
  exact look_rep h1 h2 k
theorem os_in {M : Pm} (neg : Bool) : OpS M (rInAll M.K neg) (inF neg) := by
  intro E Γ σ F0 H0 own0 F H own x y a b Q s st rx ry p
  unfold inF at p
  split at p
  · rename_i ds hb
    split at p
    · rename_i d ha
      split at p
      · rename_i ok
        have ok' := ok
        simp only [okI, Bool.and_eq_true] at ok'
        refine .inl (.inl ⟨d, ds, view_dp s rx ha ok'.1.1, .inl (view_dp s ry hb (by simpa [PyData.plain] using ok'.1.2)), ok, post_now s st p (.bl _)⟩)
      · exact p.elim
    · exact p.elim
  · rename_i ds hb
    split at p
    · rename_i d ha
      split at p
      · rename_i ok
        have ok' := ok
        simp only [okI, Bool.and_eq_true] at ok'
        refine .inl (.inl ⟨d, ds, view_dp s rx ha ok'.1.1, .inr (view_dp s ry hb (by simpa [PyData.plain] using ok'.1.2)), ok, post_now s st p (.bl _)⟩)
      · exact p.elim
    · exact p.elim
  · rename_i z hb
    split at p
    · rename_i y'
      split at p
      · rename_i c hc
        have hy : y = .str z := by
          cases b with
          | f d =>
            simp only [viewD, Option.some.injEq] at hb
            subst hb
            cases ry
            rfl
          | b i =>
            simp only [viewD] at hb
            split at hb
            · rename_i d0 hd
              cases hb
              obtain ⟨v, h1, _, h2⟩ := slotAt s ry hd
              cases h1
              cases h2
              rfl
            · cases hb
            · cases hb
            · cases hb
          | _ => cases hb
        cases rx
        exact .inr ⟨c, z, by rw [signOf_some hc], hy, post_now s st p (.bl _)⟩
      · exact p.elim
    · exact p.elim
  · split at p
    · rename_i kds hb
      split at p
      · rename_i d
        split at p
        · rename_i k hk
          obtain ⟨l, kvs, rfl, h1, h2, h3⟩ := view_K s ry hb
          obtain ⟨o, g, ro⟩ := dget_k h1 h2 h3 rx hk
          refine .inl (.inr ⟨l, o, rfl, g, ?_⟩)
          have := post_now s st p (.bl _)
          rw [ro.isSome]
          exact this
        · exact p.elim
      · exact p.elim
    · split at p
      · rename_i kds hb
        split at p
        · rename_i d
          split at p
          · rename_i k hk
            obtain ⟨l, kvs, rfl, h1, h2, h3⟩ := view_T s ry hb
            obtain ⟨o, g, ro⟩ := dget_t s.fh h1 h2 h3 rx hk
            refine .inl (.inr ⟨l, o, rfl, g, ?_⟩)
            have := post_now s st p (.bl _)
            rw [ro.isSome]
            exact this
          · exact p.elim
        · exact p.elim
      · exact p.elim
end DL
end

section
set_option Elab.async false
set_option linter.all false
set_option maxRecDepth 100000
set_option maxHeartbeats 1000000
/-! DL5: is, subscripts, slices, tests, and/or/not, conditional expressions, fields. -/
namespace DL
open PySem PySem.Spec PyProof.Rows L2

/-! ### is -/
def noneV : Val → Bool
  | .f .none => true
  | _ => false
abbrev rIsN (neg : Bool) : R2 := fun x y H Q => y = .non ∧ Q (.bl (if neg then !decide (x = .non) else decide (x = .non))) H
abbrev rIsB (neg : Bool) : R2 := fun x y H Q => ∃ a b, x = .bl a ∧ y = .bl b ∧ Q (.bl (if neg then !decide (a = b) else decide (a = b))) H
abbrev rIsAll (neg : Bool) : R2 := fun x y H Q => rIsN neg x y H Q ∨ rIsB neg x y H Q
theorem op_isAll {X : Cx} : OpR X (compareOp .Is) (rIsAll false) := op_isN.or op_is_bl
theorem op_isNotAll {X : Cx} : OpR X (compareOp .IsNot) (rIsAll true) := op_notN.or op_isnot_bl
def isF (neg : Bool) (Γ : Gam) (a b : Val) : R Val := match b with
  | .f .none => .ok (.f (.bool (ng neg (noneV a)))) Γ
  | .f (.bool y) => match a with
    | .f (.bool x) => .ok (.f (.bool (ng neg (decide (x = y))))) Γ
    | _ => .stuck
  | _ => .stuck
theorem none_iff {M : Pm} {Γ : Gam} {σ : L2.St} {F H : Hp} {own : Own} {x : V} {a : Val} (s : StR M Γ σ F H own) (r : ValRd M σ F x a) (hb : ∀ i, a = .b i → ∃ sl, Γ[i]? = some sl ∧ ∀ d, sl ≠ .one (.fz d) ∧ sl ≠ .un) : decide (x = .non) = noneV a := by
  cases a with
  | f d =>
    have r' : Rep M.cls F x d := r
    cases r' <;> simp [noneV, dicK, dicT, dicF, DL.ins, knD]
  | b i =>
    obtain ⟨sl, h1, h2⟩ := hb i rfl
    have h3 := slotAt s r h1
    have : x ≠ .non := by
      cases sl with
      | un => exact absurd rfl (h2 .none).2
      | one f =>
        obtain ⟨v, e, h⟩ := h3
        cases e
        cases f with
        | fz d => exact absurd rfl (h2 d).1
        | ol ds =>
          obtain ⟨l, vs, e, _⟩ := h
          rw [e]
          simp
        | oK ds =>
          obtain ⟨l, vs, e, _⟩ := h
          rw [e]
          simp
        | oT ds =>
          obtain ⟨l, vs, e, _⟩ := h
          rw [e]
          simp
      | cmp c pin fds =>
        obtain ⟨a, e, _⟩ := h3
        cases e
        simp
      | box n pin d =>
        obtain ⟨a, e, _⟩ := h3
        cases e
        simp
      | vw ds =>
        obtain ⟨_, l, vs, e, _⟩ := h3
        cases e
        simp
    simp [noneV, this]
  | n f => exact r.elim
  | nc c fds => exact r.elim
  | nb n d => exact r.elim
def isF' (neg : Bool) (Γ : Gam) (a b : Val) : R Val := match a with
  | .b _ => .stuck
  | a => isF neg Γ a b
theorem os_is {M : Pm} (neg : Bool) : OpS M (rIsAll neg) (isF' neg) := by
  intro E Γ σ F0 H0 own0 F H own x y a b Q s st rx ry p
  unfold isF' at p
  split at p
  · exact p.elim
  · rename_i hna
    unfold isF at p
    split at p
    · cases ry
      refine .inl ⟨rfl, ?_⟩
      have hq := post_now s st p (.bl _)
      have e := none_iff s rx fun i hi => absurd hi (hna i)
      rw [e]
      exact hq
    · split at p
      · cases ry
        cases rx
        exact .inr ⟨_, _, rfl, rfl, post_now s st p (.bl _)⟩
      · exact p.elim
    · exact p.elim

/-! ### subscripts -/
abbrev rIxD : R2 := fun x y H Q => ∃ a v, x = .ref a ∧ DGet H a y (some v) ∧ Q v H
theorem ix_dict {X : Cx} (hu : X.A.units + 64 < cLine) : IxR X rIxD := by
  intro value slice pins s σ H x y v u Q I rx ry h hs
  obtain ⟨a, w, rfl, g, q⟩ := h
  cases rx
  exact tail_any (dict_typeIs I g) PySem.F.slot_dict_getitem.lookup (d_getItem (by omega) I g ry fun w' s3 I3 rw' => ⟨w, H, I3, rw', q⟩) hs
abbrev rIxAll (K : PySem.W.Frag) : R2 := fun x y H Q => rIx K x y H Q ∨ rIxD x y H Q
theorem ix_all {X : Cx} (hu : X.A.units + 64 < cLine) : IxR X (rIxAll X.K) := ix_seq.or (ix_dict hu)
def ixF (Γ : Gam) (a b : Val) : R Val := match viewD Γ a with
  | some (.list ds) => match b with
    | .f (.int i) => match atI ds i with
      | some d => .ok (.f d) Γ
      | none => .stuck
    | _ => .stuck
  | some (.tuple ds) => match b with
    | .f (.int i) => match atI ds i with
      | some d => .ok (.f d) Γ
      | none => .stuck
    | _ => .stuck
  | some (.str z) => match b with
    | .f (.int i) => match atI z.cps.toList i with
      | some c => if z.length ≤ sizeLine then .ok (.f (.str ⟨#[c]⟩)) Γ else .stuck
      | none => .stuck
    | _ => .stuck
  | _ => match viewK Γ a with
    | some kds => match b with
      | .f d => match keyOf d with
        | some k => match look kds k with
          | some d' => .ok (.f d') Γ
          | none => .stuck
        | none => .stuck
      | _ => .stuck
    | none => match viewT Γ a with
      | some kds => match b with
        | .f d => match keyTOf d with
          | some k => match look kds k with
            | some d' => .ok (.f d') Γ
            | none => .stuck
          | none => .stuck
        | _ => .stuck
      | none => .stuck
theorem atI_rep {cls : Str → Addr} {F : Hp} {vs : List V} {ds : List D} {i : Int} {d : D} (r : RepAll cls F vs ds) (h : atI ds i = some d) : ∃ v, atI vs i = some v ∧ Rep cls F v d := by
  unfold atI at h ⊢
  rw [r.length]
  cases e : ixN ds.length i with
  | none =>
    rw [e] at h
    cases h
  | some j =>
    rw [e] at h
    exact r.at j d h
theorem view_str {M : Pm} {Γ : Gam} {σ : L2.St} {F H : Hp} {own : Own} {x : V} {a : Val} {z : Str} (s : StR M Γ σ F H own) (r : ValRd M σ F x a) (hb : viewD Γ a = some (.str z)) : x = .str z := by
  cases a with
  | f d =>
    simp only [viewD, Option.some.injEq] at hb
    subst hb
    cases r
    rfl
  | b i =>
    simp only [viewD] at hb
    split at hb
    · rename_i d0 hd
      cases hb
      obtain ⟨v, h1, _, h2⟩ := slotAt s r hd
      cases h1
      cases h2
      rfl
    · cases hb
    · cases hb
    · cases hb
  | _ => cases hb
theorem repO_some {cls : Str → Addr} {F : Hp} {o : Option V} {d : D} (h : RepO cls F o (some d)) : ∃ v, o = some v ∧ Rep cls F v d := by
  cases o with
  | none => exact h.elim
  | some v => exact ⟨v, rfl, h⟩
theorem os_ix {M : Pm} : OpS M (rIxAll M.K) ixF := by
  intro E Γ σ F0 H0 own0 F H own x y a b Q s st rx ry p
  unfold ixF at p
  split at p
  · rename_i ds hb
    split at p
    · rename_i i
      split at p
      · rename_i d hd
        obtain ⟨l, vs, rfl, h1, h2⟩ := view_list s rx hb
        obtain ⟨v, h3, h4⟩ := atI_rep h2 hd
        cases ry
        exact .inl (.inl ⟨l, vs, i, v, rfl, rfl, h1, h3, post_now s st p h4⟩)
      · exact p.elim
    · exact p.elim
  · rename_i ds hb
    split at p
    · rename_i i
      split at p
      · rename_i d hd
        obtain ⟨l, vs, rfl, _, h1, h2⟩ := view_tup s rx hb
        obtain ⟨v, h3, h4⟩ := atI_rep h2 hd
        cases ry
        exact .inl (.inr (.inl ⟨l, vs, i, v, rfl, rfl, h1, h3, post_now s st p h4⟩))
      · exact p.elim
    · exact p.elim
  · rename_i z hb
    split at p
    · rename_i i
      split at p
      · rename_i c hc
        split at p
        · rename_i hz
          have := view_str s rx hb
          subst this
          cases ry
          exact .inl (.inr (.inr ⟨z, i, c, rfl, rfl, hz, hc, post_now s st p (.str _)⟩))
        · exact p.elim
      · exact p.elim
    · exact p.elim
  · split at p
    · rename_i kds hb
      split at p
      · rename_i d
        split at p
        · rename_i k hk
          split at p
          · rename_i d' hd'
            obtain ⟨l, kvs, rfl, h1, h2, h3⟩ := view_K s rx hb
            obtain ⟨o, g, ro⟩ := dget_k h1 h2 h3 ry hk
            rw [hd'] at ro
            obtain ⟨v, rfl, rv⟩ := repO_some ro
            exact .inr ⟨l, v, rfl, g, post_now s st p rv⟩
          · exact p.elim
        · exact p.elim
      · exact p.elim
    · split at p
      · rename_i kds hb
        split at p
        · rename_i d
          split at p
          · rename_i k hk
            split at p
            · rename_i d' hd'
              obtain ⟨l, kvs, rfl, h1, h2, h3⟩ := view_T s rx hb
              obtain ⟨o, g, ro⟩ := dget_t s.fh h1 h2 h3 ry hk
              rw [hd'] at ro
              obtain ⟨v, rfl, rv⟩ := repO_some ro
              exact .inr ⟨l, v, rfl, g, post_now s st p rv⟩
            · exact p.elim
          · exact p.elim
        · exact p.elim
      · exact p.elim
section
variable {X : Cx} {M : Pm} {E : XK} {a b c e o : Expr} {ma mb mc m : Gam → R Val} {pos : Pos}
theorem e_ix {r : R2} {f : Gam → Val → Val → R Val} (hr : IxR X r) (hs : OpS M r f) (ha : PE X a (tE M E ma)) (hb : PE X b (tE M E mb)) (hp : PlainIx b) : PE X (.Subscript a b pos) (tE M E (bin f ma mb)) :=
  PE_weak (pe_ix hr (pe_rd ha) (pe_rd hb) hp) fun _ _ _ q => tE_bin hs q
/-! ### slices -/
def relO : Rel (Option Int) (Option Int) := fun _ _ _ _ _ x a => x = a
theorem back_O : Back relO := fun _ _ _ _ _ _ _ _ _ r => r
abbrev tP (M : Pm) (E : XK) (m : Gam → R (Option Int)) : TO := tG relO M E m
def noPart : Gam → R (Option Int) := fun Γ => .ok none Γ
def partM (m : Gam → R Val) : Gam → R (Option Int) := fun Γ => (rd m Γ).bind fun v Γ1 => match v with
  | .f (.int i) => .ok (some i) Γ1
  | _ => .stuck
theorem PO_weak {X : Cx} {e : Option Expr} {t t' : TO} (h : PO X e t) (w : ∀ σ H Q, t' σ H Q → t σ H Q) : PO X e t' := ⟨fun pins s σ H Q I q => h.run pins s σ H Q I (w σ H Q q)⟩
theorem o_none : PO X none (tP M E noPart) := PO_weak po_none fun σ H Q q => by
  obtain ⟨Γ, F, own, st, p⟩ := q
  exact p none F H own st (.refl _ _ _) rfl
theorem o_some (h : PE X e (tE M E m)) : PO X (some e) (tP M E (partM m)) := PO_weak (po_some (pe_rd h)) fun σ H Q q => by
  obtain ⟨Γ, F, own, st, p⟩ := q
  refine ⟨Γ, F, own, st, post_bind p fun F1 H1 own1 Γ1 x va _ st1 s1 r1 p1 => ?_⟩
  split at p1
  · cases r1
    exact ⟨_, rfl, p1 _ F1 H1 own1 st1 s1 rfl⟩
  · exact p1.elim
def cutD (ds : List D) (lo hi : Option Int) : List D := (ds.drop (HT.sIx ds.length 0 lo)).take (HT.sIx ds.length ds.length hi - HT.sIx ds.length 0 lo)
theorem cut_rep {cls : Str → Addr} {F : Hp} {vs : List V} {ds : List D} (lo hi : Option Int) (r : RepAll cls F vs ds) : RepAll cls F (cutV vs lo hi) (cutD ds lo hi) := by
  unfold cutV cutD
  rw [r.length]
  exact (r.drop _).take _
def slF (Γ : Gam) (a : Val) (lo hi : Option Int) : R Val := match viewD Γ a with
  | some (.str z) => if z.length ≤ sizeLine then .ok (.f (.str (cutS z lo hi))) Γ else .stuck
  | some (.tuple ds) => .ok (.f (.tuple (cutD ds lo hi))) Γ
  | some (.list ds) => .ok (.n (.ol (cutD ds lo hi))) Γ
  | _ => .stuck
def sliceM (ma : Gam → R Val) (ml mh : Gam → R (Option Int)) : Gam → R Val := fun Γ => (rd ma Γ).bind fun a Γ1 => (ml Γ1).bind fun lo Γ2 => (mh Γ2).bind fun hi Γ3 => slF Γ3 a lo hi
theorem sIx_full {n : Nat} {lo hi : Option Int} (h : HT.sIx n 0 lo = 0 ∧ HT.sIx n n hi = n) (ds : List D) (e : ds.length = n) : cutD ds lo hi = ds := by
  unfold cutD
  rw [e, h.1, h.2, List.drop_zero, Nat.sub_zero, ← e, List.take_length]
theorem e_slice {lo hi : Option Expr} {ml mh : Gam → R (Option Int)} {p2 : Pos} (hK : X.K = M.K) (ha : PE X a (tE M E ma)) (hl : PO X lo (tP M E ml)) (hh : PO X hi (tP M E mh)) : PE X (.Subscript a (.Slice lo hi none p2) pos) (tE M E (sliceM ma ml mh)) :=
  PE_weak (pe_slice ((sl_tupA.or sl_list).or sl_str) (pe_rd ha) hl hh) fun σ H Q q => by
  obtain ⟨Γ, F, own, st, p⟩ := q
  refine ⟨Γ, F, own, st, post_bind p fun F1 H1 own1 Γ1 x va _ st1 s1 r1 p1 => ⟨Γ1, F1, own1, st1, post_bind (p1.mono (back_V M) s1) fun F2 H2 own2 Γ2 l l' _ st2 s2 r2 p2 => ⟨Γ2, F2, own2, st2, post_bind (p2.mono (back_V M) s2) fun F3 H3 own3 Γ3 h h' _ st3 s3 r3 p3 => ?_⟩⟩⟩
  cases r2
  cases r3
  have rx := ValRd.mono s3.ff (ValRd.mono s2.ff r1)
  rw [hK]
  unfold slF at p3
  split at p3
  · rename_i z hb
    split at p3
    · rename_i hz
      have := view_str st3 rx hb
      subst this
      exact .inr ⟨z, rfl, hz, post_now st3 s3 p3 (.str _)⟩
    · exact p3.elim
  · rename_i ds hb
    obtain ⟨k, vs, rfl, hF, h1, h2⟩ := view_tup st3 rx hb
    refine .inl (.inl ⟨k, vs, rfl, h1, fun hw => ?_, fun hw q hq => post_newU st3 s3 p3 hq (cut_rep _ _ h2)⟩)
    rw [sIx_full hw ds h2.length.symm] at p3
    exact post_now st3 s3 p3 hF.1
  · rename_i ds hb
    obtain ⟨k, vs, rfl, h1, h2⟩ := view_list st3 rx hb
    exact .inl (.inr ⟨k, vs, rfl, h1, fun q hq => post_newL st3 s3 p3 hq (cut_rep _ _ h2)⟩)
  · exact p3.elim

/-! ### tests -/
def testM (m : Gam → R Val) : Gam → R Bool := fun Γ => (rd m Γ).bind fun v Γ1 => match v with
  | .f (.bool b) => .ok b Γ1
  | _ => .stuck
theorem tT_test {σ : L2.St} {H : Hp} {Q : Bool → Hp → Prop} (q : tT M E (testM m) σ H Q) : tB (tD M E (rd m)) σ H Q := by
  obtain ⟨Γ, F, own, st, p⟩ := q
  refine ⟨Γ, F, own, st, post_bind p fun F1 H1 own1 Γ1 x va _ st1 s1 r1 p1 => ?_⟩
  split at p1
  · cases r1
    exact ⟨_, rfl, p1 _ F1 H1 own1 st1 s1 rfl⟩
  · exact p1.elim
theorem t_val (h : PE X e (tE M E m)) (he : ∀ whole, isTrue e X.env whole = (do let v ← whole; standAt e.pos; holding [v] (truthy v)) := by intro _; rfl) : PT X e (tT M E (testM m)) :=
  PT_weak (pt_val (pe_rd h) he) fun _ _ _ q => tT_test q
variable {ta tb : Gam → R Bool} {rest : List Expr}
def andT (ta tb : Gam → R Bool) : Gam → R Bool := fun Γ => (ta Γ).bind fun c Γ1 => if c = true then tb Γ1 else .ok false Γ1
def orT (ta tb : Gam → R Bool) : Gam → R Bool := fun Γ => (ta Γ).bind fun c Γ1 => if c = true then .ok true Γ1 else tb Γ1
def notT (ta : Gam → R Bool) : Gam → R Bool := fun Γ => (ta Γ).bind fun c Γ1 => .ok (!c) Γ1
theorem w_and (ha : PT X a (tT M E ta)) (hb : PW X (.BoolOp .And (b :: rest) pos) (tT M E tb)) : PW X (.BoolOp .And (a :: b :: rest) pos) (tT M E (andT ta tb)) := PW_weak (pw_and ha hb) fun σ H Q q => by
  obtain ⟨Γ, F, own, st, p⟩ := q
  refine ⟨Γ, F, own, st, post_bind p fun F1 H1 own1 Γ1 x va _ st1 s1 r1 p1 => ?_⟩
  cases r1
  by_cases h : x = true
  · rw [if_pos h] at p1 ⊢
    exact ⟨Γ1, F1, own1, st1, p1.mono back_B s1⟩
  · rw [if_neg h] at p1 ⊢
    exact p1 _ F1 H1 own1 st1 s1 rfl
theorem w_or (ha : PT X a (tT M E ta)) (hb : PW X (.BoolOp .Or (b :: rest) pos) (tT M E tb)) : PW X (.BoolOp .Or (a :: b :: rest) pos) (tT M E (orT ta tb)) := PW_weak (pw_or ha hb) fun σ H Q q => by
  obtain ⟨Γ, F, own, st, p⟩ := q
  refine ⟨Γ, F, own, st, post_bind p fun F1 H1 own1 Γ1 x va _ st1 s1 r1 p1 => ?_⟩
  cases r1
  by_cases h : x = true
  · rw [if_pos h] at p1 ⊢
    exact p1 _ F1 H1 own1 st1 s1 rfl
  · rw [if_neg h] at p1 ⊢
    exact ⟨Γ1, F1, own1, st1, p1.mono back_B s1⟩
theorem w_and1 (ha : PT X a (tT M E ta)) : PW X (.BoolOp .And [a] pos) (tT M E ta) := pw_and1 ha
theorem w_or1 (ha : PT X a (tT M E ta)) : PW X (.BoolOp .Or [a] pos) (tT M E ta) := pw_or1 ha
theorem t_not (ha : PT X a (tT M E ta)) : PT X (.UnaryOp .Not a pos) (tT M E (notT ta)) := PT_weak (pt_not ha) fun σ H Q q => by
  obtain ⟨Γ, F, own, st, p⟩ := q
  refine ⟨Γ, F, own, st, post_bind p fun F1 H1 own1 Γ1 x va _ st1 s1 r1 p1 => ?_⟩
  cases r1
  exact p1 _ F1 H1 own1 st1 s1 rfl
/-! ### and, or, not as values; conditional expressions -/
def andM (ma mb : Gam → R Val) : Gam → R Val := fun Γ => (rd ma Γ).bind fun v Γ1 => match v with
  | .f (.bool c) => if c = true then mb Γ1 else .ok (.f (.bool false)) Γ1
  | _ => .stuck
def orM (ma mb : Gam → R Val) : Gam → R Val := fun Γ => (rd ma Γ).bind fun v Γ1 => match v with
  | .f (.bool c) => if c = true then .ok (.f (.bool true)) Γ1 else mb Γ1
  | _ => .stuck
def notM (ma : Gam → R Val) : Gam → R Val := fun Γ => (rd ma Γ).bind fun v Γ1 => match v with
  | .f (.bool c) => .ok (.f (.bool (!c))) Γ1
  | _ => .stuck
def ifM (t : Gam → R Bool) (ma mb : Gam → R Val) : Gam → R Val := fun Γ => (t Γ).bind fun c Γ1 => if c = true then ma Γ1 else mb Γ1
theorem e_one {op : BoolOp} (h : PE X a (tE M E ma)) : PE X (.BoolOp op [a] pos) (tE M E ma) := pe_one h
theorem e_and (ha : PE X a (tE M E ma)) (hb : PE X (.BoolOp .And (b :: rest) pos) (tE M E mb)) : PE X (.BoolOp .And (a :: b :: rest) pos) (tE M E (andM ma mb)) := PE_weak (pe_and (pe_rd ha) hb) fun σ H Q q => by
  obtain ⟨Γ, F, own, st, p⟩ := q
  refine ⟨Γ, F, own, st, post_bind p fun F1 H1 own1 Γ1 x va _ st1 s1 r1 p1 => ?_⟩
  split at p1
  · rename_i c _
    cases r1
    refine ⟨c, rfl, ?_⟩
    by_cases h : c = true
    · rw [if_pos h] at p1 ⊢
      exact ⟨Γ1, F1, own1, st1, p1.mono (back_V M) s1⟩
    · rw [if_neg h] at p1 ⊢
      exact post_now st1 s1 p1 (.bl _)
  · exact p1.elim
theorem e_or (ha : PE X a (tE M E ma)) (hb : PE X (.BoolOp .Or (b :: rest) pos) (tE M E mb)) : PE X (.BoolOp .Or (a :: b :: rest) pos) (tE M E (orM ma mb)) := PE_weak (pe_or (pe_rd ha) hb) fun σ H Q q => by
  obtain ⟨Γ, F, own, st, p⟩ := q
  refine ⟨Γ, F, own, st, post_bind p fun F1 H1 own1 Γ1 x va _ st1 s1 r1 p1 => ?_⟩
  split at p1
  · rename_i c _
    cases r1
    refine ⟨c, rfl, ?_⟩
    by_cases h : c = true
    · rw [if_pos h] at p1 ⊢
      exact post_now st1 s1 p1 (.bl _)
    · rw [if_neg h] at p1 ⊢
      exact ⟨Γ1, F1, own1, st1, p1.mono (back_V M) s1⟩
  · exact p1.elim
theorem e_not (ha : PE X a (tE M E ma)) : PE X (.UnaryOp .Not a pos) (tE M E (notM ma)) := PE_weak (pe_not (pe_rd ha)) fun σ H Q q => by
  obtain ⟨Γ, F, own, st, p⟩ := q
  refine ⟨Γ, F, own, st, post_bind p fun F1 H1 own1 Γ1 x va _ st1 s1 r1 p1 => ?_⟩
  split at p1
  · cases r1
    exact ⟨_, rfl, post_now st1 s1 p1 (.bl _)⟩
  · exact p1.elim
theorem e_if {t : Gam → R Bool} (hc : PT X c (tT M E t)) (ha : PE X a (tE M E ma)) (hb : PE X b (tE M E mb)) : PE X (.IfExp c a b pos) (tE M E (ifM t ma mb)) := PE_weak (pe_ifExp hc ha hb) fun σ H Q q => by
  obtain ⟨Γ, F, own, st, p⟩ := q
  refine ⟨Γ, F, own, st, post_bind p fun F1 H1 own1 Γ1 x va _ st1 s1 r1 p1 => ?_⟩
  cases r1
  by_cases h : x = true
  · rw [if_pos h] at p1 ⊢
    exact ⟨Γ1, F1, own1, st1, p1.mono (back_V M) s1⟩
  · rw [if_neg h] at p1 ⊢
    exact ⟨Γ1, F1, own1, st1, p1.mono (back_V M) s1⟩
/-! ### a op b op' c -/
def chainM (f f' : Gam → Val → Val → R Val) (ma mb mc : Gam → R Val) : Gam → R Val := fun Γ => (rd ma Γ).bind fun va Γ1 => (rd mb Γ1).bind fun vb Γ2 => (f Γ2 va vb).bind fun z Γ3 => match z with
  | .f (.bool k) => if k = true then (rd mc Γ3).bind fun vc Γ4 => f' Γ4 vb vc else .ok (.f (.bool false)) Γ3
  | _ => .stuck
theorem tE_chain {f f' : Gam → Val → Val → R Val} {r r' : R2} (hs : OpS M r f) (hs' : OpS M r' f') {σ : L2.St} {H : Hp} {Q : VK} (q : tE M E (chainM f f' ma mb mc) σ H Q) : tChain r r' (tD M E (rd ma)) (tD M E (rd mb)) (tD M E (rd mc)) σ H Q := by
  obtain ⟨Γ, F, own, st, p⟩ := q
  refine ⟨Γ, F, own, st, post_bind p fun F1 H1 own1 Γ1 x va _ st1 s1 r1 p1 => ⟨Γ1, F1, own1, st1, post_bind (p1.mono (back_V M) s1) fun F2 H2 own2 Γ2 y vb _ st2 s2 r2 p2 => ?_⟩⟩
  refine hs E Γ2 σ F2 H2 own2 F2 H2 own2 x y va vb _ st2 (.refl _ _ _) (ValRd.mono s2.ff r1) r2 (post_bind (p2.mono (back_V M) s2) fun F3 H3 own3 Γ3 z vz _ st3 s3 r3 p3 => ?_)
  split at p3
  · rename_i k _
    cases r3
    refine ⟨k, rfl, ?_⟩
    by_cases h : k = true
    · rw [if_pos h] at p3 ⊢
      refine ⟨Γ3, F3, own3, st3, post_bind (p3.mono (back_V M) s3) fun F4 H4 own4 Γ4 w vw _ st4 s4 r4 p4 => ?_⟩
      exact hs' E Γ4 σ F3 H3 own3 F4 H4 own4 y w vb vw _ st4 s4 (ValRd.mono s4.ff (ValRd.mono s3.ff r2)) r4 p4
    · rw [if_neg h] at p3 ⊢
      exact post_now st3 s3 p3 (.bl _)
  · exact p3.elim
theorem e_chain {op op' : CmpOp} {r r' : R2} {f f' : Gam → Val → Val → R Val} (ho : OpR X (compareOp op) r) (ho' : OpR X (compareOp op') r') (hs : OpS M r f) (hs' : OpS M r' f') (ha : PE X a (tE M E ma)) (hb : PE X b (tE M E mb)) (hc : PE X c (tE M E mc))
    (hm : lastMarks [op, op'] [b, c] = false) : PE X (.Compare a [op, op'] [b, c] pos) (tE M E (chainM f f' ma mb mc)) :=
  PE_weak (pe_chain ho ho' (pe_rd ha) (pe_rd hb) (pe_rd hc) hm) fun _ _ _ q => tE_chain hs hs' q
/-- a value that is a bool, behind a reading that is known for values -/
theorem tT_down {σ : L2.St} {H : Hp} {Q : Bool → Hp → Prop} (q : tT M E (testM m) σ H Q) : tE M E m σ H fun x H' => ∃ k, x = .bl k ∧ Q k H' := by
  obtain ⟨Γ, F, own, st, p⟩ := q
  refine ⟨Γ, F, own, st, ?_⟩
  unfold testM rd at p
  cases e : m Γ with
  | stuck =>
    rw [e] at p
    exact p
  | err x Γ1 =>
    rw [e] at p
    exact p
  | ok v Γ1 =>
    rw [e] at p
    intro x F1 H1 own1 st1 s1 r1
    cases v with
    | f d =>
      simp only [R.bind_ok, rdV] at p
      split at p
      · rename_i b hb
        cases hb
        cases r1
        exact ⟨_, rfl, p _ F1 H1 own1 st1 s1 rfl⟩
      · exact p.elim
    | b i => exact p.elim
    | n f =>
      simp only [R.bind_ok, rdV] at p
      obtain ⟨o, h1, h2⟩ := r1
      cases f with
      | fz d =>
        simp only [fldD] at p
        split at p
        · rename_i b hb
          cases hb
          cases h1.2
          exact ⟨_, rfl, p _ F1 H1 own1 st1 s1 rfl⟩
        · exact p.elim
      | ol ds => exact p.elim
      | oK ds => exact p.elim
      | oT ds => exact p.elim
    | nc c fds => exact p.elim
    | nb n d =>
      simp only [R.bind_ok, rdV] at p
      cases hd : frzT n d with
      | none =>
        rw [hd] at p
        exact p.elim
      | some d' =>
        rw [hd] at p
        obtain ⟨a, o, h0, h1, h2⟩ := r1
        subst h0
        obtain ⟨F', s1', s2', s3', s4'⟩ := st1.frzNew s1 h2 (box_frz h1 st1.fh (fun b hb => (h2 b hb).1) hd)
        simp only [R.bind_ok] at p
        split at p
        · rename_i b hb
          cases hb
          cases s4'
        · exact p.elim
theorem t_cmp {op : CmpOp} {r : R2} {f : Gam → Val → Val → R Val} (ho : OpR X (compareOp op) r) (hs : OpS M r f) (ha : PE X a (tE M E ma)) (hb : PE X b (tE M E mb)) (hm : behindInMarks op b = false) : PT X (.Compare a [op] [b] pos) (tT M E (testM (bin f ma mb))) :=
  PT_weak (pt_cmpR ho (pe_rd ha) (pe_rd hb) hm) fun σ H Q q => tE_bin hs (tT_down q)
theorem t_chain {op op' : CmpOp} {r r' : R2} {f f' : Gam → Val → Val → R Val} (ho : OpR X (compareOp op) r) (ho' : OpR X (compareOp op') r') (hs : OpS M r f) (hs' : OpS M r' f') (ha : PE X a (tE M E ma)) (hb : PE X b (tE M E mb)) (hc : PE X c (tE M E mc))
    (hm : lastMarks [op, op'] [b, c] = false) : PT X (.Compare a [op, op'] [b, c] pos) (tT M E (testM (chainM f f' ma mb mc))) :=
  PT_weak (pt_chain ho ho' (pe_rd ha) (pe_rd hb) (pe_rd hc) hm) fun _ _ _ q => tE_chain hs hs' (tT_down q)
end
end DL
end

section
set_option Elab.async false
set_option linter.all false
set_option maxRecDepth 100000
set_option maxHeartbeats 1000000
/-! DL6: arguments, built-ins, displays, fields, promises, calls. -/
namespace DL
open PySem PySem.Spec PyProof.Rows L2

/-! ### argument lists -/
def nilA : Gam → R (List Val) := fun Γ => .ok [] Γ
def consA (m : Gam → R Val) (ms : Gam → R (List Val)) : Gam → R (List Val) := fun Γ => (rd m Γ).bind fun v Γ1 => (ms Γ1).bind fun vs Γ2 => .ok (v :: vs) Γ2
section
variable {X : Cx} {M : Pm} {E : XK} {a b c e o : Expr} {es : List Expr} {ma mb mc m : Gam → R Val} {ms : Gam → R (List Val)} {pos : Pos}
theorem a_nil : PA X [] (tA M E nilA) := PA_weak pa_nil fun σ H Q q => by
  obtain ⟨Γ, F, own, st, p⟩ := q
  exact p [] F H own st (.refl _ _ _) .nil
theorem a_cons (ha : PE X e (tE M E m)) (hr : PA X es (tA M E ms)) (hs : starEach (e :: es) X.env = (false, eval e X.env) :: starEach es X.env := by rfl) : PA X (e :: es) (tA M E (consA m ms)) := PA_weak (pa_cons (pe_rd ha) hr hs) fun σ H Q q => by
  obtain ⟨Γ, F, own, st, p⟩ := q
  refine ⟨Γ, F, own, st, post_bind p fun F1 H1 own1 Γ1 x va _ st1 s1 r1 p1 => ⟨Γ1, F1, own1, st1, post_bind (p1.mono (back_A M) s1) fun F2 H2 own2 Γ2 xs vs _ st2 s2 r2 p2 => ?_⟩⟩
  exact p2 _ F2 H2 own2 st2 s2 (.cons (ValRd.mono s2.ff r1) r2)
/-! ### built-in functions, by values -/
def CallS (M : Pm) (r : List V → Hp → VK → Prop) (f : Gam → List Val → R Val) : Prop := ∀ E Γ σ F0 H0 own0 F H own xs as Q, StR M Γ σ F H own → Step F0 H0 own0 F H own → ValsRd M σ F xs as →
  PostG (relV M) M E σ F0 H0 own0 Q (f Γ as) → r xs H Q
def callM (f : Gam → List Val → R Val) (ms : Gam → R (List Val)) : Gam → R Val := fun Γ => (ms Γ).bind fun vs Γ1 => f Γ1 vs
theorem tE_call {r : List V → Hp → VK → Prop} {f : Gam → List Val → R Val} (hs : CallS M r f) {σ : L2.St} {H : Hp} {Q : VK} (q : tE M E (callM f ms) σ H Q) : tCB r (tA M E ms) σ H Q := by
  obtain ⟨Γ, F, own, st, p⟩ := q
  exact ⟨Γ, F, own, st, post_bind p fun F1 H1 own1 Γ1 xs vs _ st1 s1 r1 p1 => hs E Γ1 σ F H own F1 H1 own1 xs vs Q st1 s1 r1 p1⟩
theorem e_callB {x id : String} {r : List V → Hp → VK → Prop} {f : Gam → List Val → R Val} {p : Pos} (hc : CallR X (.builtin id) r) (hs : CallS M r f) (hg : Gl X (x : String)) (hm : X.mg x = none) (hv : bootBuiltins x = some (.builtin id)) (ha : PA X (e :: es) (tA M E ms))
    (hn : (x : Str) ≠ "__name__" := by decide) (hdb : ((x : Str) == ("__debug__" : Str)) = false := by decide)
    (he : starEach (e :: es) X.env = (false, eval e X.env) :: starEach es X.env := by rfl) (hpl : (backTo pos (starEach es X.env)).any (·.1) = false := by rfl) : PE X (.Call (.Name x p) (e :: es) [] pos) (tE M E (callM f ms)) :=
  PE_weak (pe_callB hc hg hm hv ha hn hdb he hpl) fun _ _ _ q => tE_call hs q
theorem e_callTy {x T : String} {r : List V → Hp → VK → Prop} {f : Gam → List Val → R Val} {p : Pos} (hc : CallR X (.type T) r) (hs : CallS M r f) (hg : Gl X (x : String)) (hm : X.mg x = none) (hv : bootBuiltins x = some (.type T)) (ha : PA X (e :: es) (tA M E ms))
    (hn : (x : Str) ≠ "__name__" := by decide) (hdb : ((x : Str) == ("__debug__" : Str)) = false := by decide)
    (he : starEach (e :: es) X.env = (false, eval e X.env) :: starEach es X.env := by rfl) (hpl : (backTo pos (starEach es X.env)).any (·.1) = false := by rfl) : PE X (.Call (.Name x p) (e :: es) [] pos) (tE M E (callM f ms)) :=
  PE_weak (pe_callTy hc hg hm hv ha hn hdb he hpl) fun _ _ _ q => tE_call hs q
/-! ### displays -/
def fzL (m : Gam → R Val) : Gam → R D := fun Γ => (m Γ).bind fun v Γ1 => fzV Γ1 v
def relF (M : Pm) : Rel V D := fun _ _ F _ _ v d => Rep M.cls F v d
theorem back_F (M : Pm) : Back (relF M) := fun _ _ _ _ _ _ _ _ _ r => r
abbrev tF (M : Pm) (E : XK) (m : Gam → R D) : TE := tG (relF M) M E m
theorem pe_fz (h : PE X e (tE M E m)) : PE X e (tF M E (fzL m)) := PE_weak h fun σ H Q q => by
  obtain ⟨Γ, F, own, st, p⟩ := q
  refine ⟨Γ, F, own, st, post_bind p fun F1 H1 own1 Γ1 x v _ st s r p => ?_⟩
  cases e : fzV Γ1 v with
  | ok d Γ2 =>
    obtain ⟨F', own', s1, s2, s3, s4⟩ := val_frz st s r e
    rw [e] at p
    exact p x F' H1 own' s1 s2 s4
  | err x' Γ2 =>
    cases v <;> simp only [fzV] at e
    · cases e
    · split at e
      · split at e <;> cases e
      · cases e
    · cases e
    · cases e
    · split at e <;> cases e
  | stuck =>
    rw [e] at p
    exact p.elim
def relFs (M : Pm) : Rel (List V) (List D) := fun _ _ F _ _ v d => RepAll M.cls F v d
theorem back_Fs (M : Pm) : Back (relFs M) := fun _ _ _ _ _ _ _ _ _ r => r
abbrev tFs (M : Pm) (E : XK) (m : Gam → R (List D)) : TA := tG (relFs M) M E m
def nilD : Gam → R (List D) := fun Γ => .ok [] Γ
def consD (m : Gam → R Val) (ms : Gam → R (List D)) : Gam → R (List D) := fun Γ => (fzL m Γ).bind fun v Γ1 => (ms Γ1).bind fun vs Γ2 => .ok (v :: vs) Γ2
variable {md : Gam → R (List D)}
theorem d_nil : PA X [] (tFs M E nilD) := PA_weak pa_nil fun σ H Q q => by
  obtain ⟨Γ, F, own, st, p⟩ := q
  exact p [] F H own st (.refl _ _ _) .nil
theorem d_cons (ha : PE X e (tE M E m)) (hr : PA X es (tFs M E md)) (hs : starEach (e :: es) X.env = (false, eval e X.env) :: starEach es X.env := by rfl) : PA X (e :: es) (tFs M E (consD m md)) := PA_weak (pa_cons (pe_fz ha) hr hs) fun σ H Q q => by
  obtain ⟨Γ, F, own, st, p⟩ := q
  refine ⟨Γ, F, own, st, post_bind p fun F1 H1 own1 Γ1 x va _ st1 s1 r1 p1 => ⟨Γ1, F1, own1, st1, post_bind (p1.mono (back_Fs M) s1) fun F2 H2 own2 Γ2 xs vs _ st2 s2 r2 p2 => ?_⟩⟩
  exact p2 _ F2 H2 own2 st2 s2 (.cons (Rep.mono s2.ff r1) r2)
def tupM (md : Gam → R (List D)) : Gam → R Val := fun Γ => (md Γ).bind fun ds Γ1 => if ds.length ≤ sizeLine then .ok (.f (.tuple ds)) Γ1 else .stuck
def lstM (md : Gam → R (List D)) : Gam → R Val := fun Γ => (md Γ).bind fun ds Γ1 => if ds.length ≤ sizeLine then .ok (.n (.ol ds)) Γ1 else .stuck
theorem e_tup {x1} (h : PA X es (tFs M E md)) : PE X (.Tuple es x1 pos) (tE M E (tupM md)) := PE_weak (pe_tup h) fun σ H Q q => by
  obtain ⟨Γ, F, own, st, p⟩ := q
  refine ⟨Γ, F, own, st, post_bind p fun F1 H1 own1 Γ1 xs ds _ st1 s1 r1 p1 => ?_⟩
  split at p1
  · rename_i h
    have e := RepAll.length r1
    exact ⟨by rw [e]; exact h, fun q hq => post_newU st1 s1 p1 hq r1⟩
  · exact p1.elim
theorem e_lst (h : PA X es (tFs M E md)) : PE X (.List es pos) (tE M E (lstM md)) := PE_weak (pe_lst h) fun σ H Q q => by
  obtain ⟨Γ, F, own, st, p⟩ := q
  refine ⟨Γ, F, own, st, post_bind p fun F1 H1 own1 Γ1 xs ds _ st1 s1 r1 p1 => ?_⟩
  split at p1
  · rename_i h
    have e := RepAll.length r1
    exact ⟨by rw [e]; exact h, fun q hq => post_newL st1 s1 p1 hq r1⟩
  · exact p1.elim
def dnewK : Gam → R Val := fun Γ => .ok (.n (.oK [])) Γ
def dnewT : Gam → R Val := fun Γ => .ok (.n (.oT [])) Γ
theorem e_dnewK : PE X (.Dict [] [] pos) (tE M E dnewK) := PE_weak pe_dnewK fun σ H Q q => by
  obtain ⟨Γ, F, own, st, p⟩ := q
  exact fun q hq => post_newO st (.refl _ _ _) p hq ⟨q, [], rfl, fun _ => .rfl, upd_same, rfl, .nil⟩
theorem e_dnewT : PE X (.Dict [] [] pos) (tE M E dnewT) := PE_weak pe_dnewT fun σ H Q q => by
  obtain ⟨Γ, F, own, st, p⟩ := q
  exact fun q hq => post_newO st (.refl _ _ _) p hq ⟨q, [], rfl, fun _ => .rfl, upd_same, rfl, .nil⟩
/-! ### fields -/
def strsOf : List (D × D) → Option (List (Str × D))
  | [] => some []
  | p :: r => match p.1, strsOf r with
    | .str s, some fs => some ((s, p.2) :: fs)
    | _, _ => none
def decI : D → Option (Str × List (Str × D))
  | .dict ((.none, .str c) :: r) => match strsOf r with
    | some fs => some (c, fs)
    | none => none
  | _ => none
theorem strsOf_map : ∀ fds : List (Str × D), strsOf (fds.map fun p => ((PyData.str p.1 : D), p.2)) = some fds
  | [] => rfl
  | p :: r => by simp [strsOf, strsOf_map r]
@[simp] theorem decI_ins (c : Str) (fds : List (Str × D)) : decI (ins c fds) = some (c, fds) := by
  simp [decI, ins, strsOf_map]
theorem strsOf_some : ∀ {r : List (D × D)} {fs : List (Str × D)}, strsOf r = some fs → r = fs.map fun p => ((PyData.str p.1 : D), p.2)
  | [], _, h => by
    simp [strsOf] at h
    subst h
    rfl
  | p :: r, fs, h => by
    simp only [strsOf] at h
    split at h
    · rename_i s fs' h1 h2
      cases h
      rw [strsOf_some h2, List.map_cons, ← h1]
    · cases h
theorem decI_some {d : D} {c : Str} {fs : List (Str × D)} (h : decI d = some (c, fs)) : d = ins c fs := by
  unfold decI at h
  split at h
  · split at h
    · rename_i h1
      cases h
      rw [strsOf_some h1]
      rfl
    · cases h
  · cases h
def viewI (Γ : Gam) : Val → Option (Str × List (Str × D))
  | .f d => decI d
  | .b i => match Γ[i]? with
    | some (.one (.fz d)) => decI d
    | some (.cmp c _ fds) => some (c, fds)
    | _ => none
  | _ => none
theorem view_I {Γ : Gam} {σ : L2.St} {F H : Hp} {own : Own} {x : V} {a : Val} {c : Str} {fds : List (Str × D)} (s : StR M Γ σ F H own) (h : ValRd M σ F x a) (e : viewI Γ a = some (c, fds)) :
    ∃ p dx fs, x = .ref p ∧ H p = some (.ins (M.cls c) dx fs) ∧ fs.map (·.1) = fds.map (·.1) ∧ RepAll M.cls F (fs.map (·.2)) (fds.map (·.2)) := by
  unfold viewI at e
  split at e
  · rw [decI_some e] at h
    obtain ⟨p, dx, fs, h1, h2, h3⟩ := Rep.invI h
    exact ⟨p, dx, fs, h1, s.fh _ _ h2, h3⟩
  · split at e
    · rename_i d hd
      obtain ⟨v, h1, _, h2⟩ := slotAt s h hd
      cases h1
      rw [decI_some e] at h2
      obtain ⟨p, dx, fs, h1, h2, h3⟩ := Rep.invI h2
      exact ⟨p, dx, fs, h1, s.fh _ _ h2, h3⟩
    · rename_i c' pin fds' hd
      cases e
      obtain ⟨a', h1, _, dx, fs, h2, _, h3⟩ := slotAt s h hd
      cases h1
      exact ⟨a', dx, fs, rfl, h2, h3⟩
    · cases e
  · cases e
structure AttrOk (M : Pm) (c f : Str) : Prop where
  cl : Cls M.K (M.cls c)
  no : NoAttr M.K (M.cls c) f
def fldK (cs : List Str) (f : Str) (m : Gam → R Val) : Gam → R Val := fun Γ => (rd m Γ).bind fun v Γ1 => match viewI Γ1 v with
  | some (c, fds) => if c ∈ cs then match look fds f with
      | some d => .ok (.f d) Γ1
      | none => .stuck
    else .stuck
  | none => .stuck
def fldM (cs : List Str) (f : Str) (m : Gam → R Val) : Gam → R Val := fun Γ => (rd m Γ).bind fun v Γ1 => match viewI Γ1 v with
  | some (c, fds) => if c ∈ cs then match look fds f with
      | some d => .ok (.f (strip d)) Γ1
      | none => .stuck
    else .stuck
  | none => .stuck
theorem look_lookup : ∀ (fs : List (Str × V)) (f : Str), fs.lookup f = look fs f
  | [], f => rfl
  | p :: r, f => by
    rw [List.lookup_cons, look]
    by_cases h : p.1 = f
    · subst h
      simp
    · have : (f == p.1) = false := by
        simp
        exact fun e => h e.symm
      rw [this, if_neg h, look_lookup r f]
theorem e_fldK {cs : List Str} {f : Str} (hK : X.K = M.K) (hA : ∀ c ∈ cs, AttrOk M c f) (ha : PE X e (tE M E m)) (hb : attributeBase e f X.env (eval e X.env) = eval e X.env) : PE X (.Attribute e f pos) (tE M E (fldK cs f m)) := PE_weak (pe_fld (pe_rd ha) hb) fun σ H Q q => by
  obtain ⟨Γ, F, own, st, p⟩ := q
  refine ⟨Γ, F, own, st, post_bind p fun F1 H1 own1 Γ1 x va _ st1 s1 r1 p1 => ?_⟩
  split at p1
  · rename_i c fds hv
    split at p1
    · rename_i hc
      split at p1
      · rename_i d hd
        obtain ⟨q, dx, fs, rfl, h1, h2, h3⟩ := view_I st1 r1 hv
        have ro := look_rep h2 h3 f
        rw [hd] at ro
        obtain ⟨v, hl, rv⟩ := repO_some ro
        rw [hK]
        exact ⟨q, _, dx, fs, v, rfl, h1, (hA c hc).cl, (hA c hc).no, by rw [look_lookup]; exact hl, post_now st1 s1 p1 rv⟩
      · exact p1.elim
    · exact p1.elim
  · exact p1.elim
theorem e_fld {cs : List Str} {f : Str} (hK : X.K = M.K) (hA : ∀ c ∈ cs, AttrOk M c f) (ha : PE X e (tE M E m)) (hb : attributeBase e f X.env (eval e X.env) = eval e X.env) : PE X (.Attribute e f pos) (tE M E (fldM cs f m)) := PE_weak (pe_fld (pe_rd ha) hb) fun σ H Q q => by
  obtain ⟨Γ, F, own, st, p⟩ := q
  refine ⟨Γ, F, own, st, post_bind p fun F1 H1 own1 Γ1 x va _ st1 s1 r1 p1 => ?_⟩
  split at p1
  · rename_i c fds hv
    split at p1
    · rename_i hc
      split at p1
      · rename_i d hd
        obtain ⟨q, dx, fs, rfl, h1, h2, h3⟩ := view_I st1 r1 hv
        have ro := look_rep h2 h3 f
        rw [hd] at ro
        obtain ⟨v, hl, rv⟩ := repO_some ro
        rw [hK]
        exact ⟨q, _, dx, fs, v, rfl, h1, (hA c hc).cl, (hA c hc).no, by rw [look_lookup]; exact hl, post_now st1 s1 p1 rv.strip⟩
      · exact p1.elim
    · exact p1.elim
  · exact p1.elim
end
/-! ### promises -/
def spG (M : Pm) (g : List Slot → R Val) : Sp := fun vs H Q E => ∃ As F own, StR M As (vs.map some) F H own ∧ PostG (relV M) M E (vs.map some) F H own Q (g As)
def isBx : Slot → Bool
  | .cmp _ _ _ => true
  | .box _ _ _ => true
  | _ => false
def unpin : Slot → Slot
  | .cmp c _ fds => .cmp c none fds
  | .box n _ d => .box n none d
  | s => s
def repin (s : Slot) : Slot → Slot
  | .cmp c _ fds => match s with
    | .cmp _ p _ => .cmp c p fds
    | .box _ p _ => .cmp c p fds
    | _ => .cmp c none fds
  | .box n _ d => match s with
    | .cmp _ p _ => .box n p d
    | .box _ p _ => .box n p d
    | _ => .box n none d
  | t => t
def outV : Val → Bool
  | .b _ => false
  | _ => true
def argsF : Gam → List Val → R (List D)
  | Γ, [] => .ok [] Γ
  | Γ, v :: vs => (fzV Γ v).bind fun d Γ1 => (argsF Γ1 vs).bind fun ds Γ2 => .ok (d :: ds) Γ2
/-- all arguments frozen -/
def callV (g : List Slot → R Val) (Γ : Gam) (vals : List Val) : R Val := (argsF Γ vals).bind fun ds Γ1 => match g (ds.map Slot.val) with
  | .ok v _ => if outV v = true then .ok v Γ1 else .stuck
  | .err e _ => .err e Γ1
  | .stuck => .stuck
/-- the first one an own object that the callee may change -/
def callX (g : List Slot → R Val) (Γ : Gam) (i : Nat) (vals : List Val) : R Val := (argsF Γ vals).bind fun ds Γ1 => match Γ1[i]? with
  | some s => if isBx s = true then match g (unpin s :: ds.map Slot.val) with
      | .ok v (s' :: _) => if outV v = true ∧ isBx s' = true then .ok v (Γ1.set i (repin s s')) else .stuck
      | .err e (s' :: _) => if isBx s' = true then .err e (Γ1.set i (repin s s')) else .stuck
      | _ => .stuck
    else .stuck
  | none => .stuck
def headBx (Γ : Gam) : List Val → Option (Nat × List Val)
  | .b i :: vs => match Γ[i]? with
    | some s => if isBx s = true then some (i, vs) else none
    | none => none
  | _ => none
def callG (g : List Slot → R Val) (Γ : Gam) (vals : List Val) : R Val := match headBx Γ vals with
  | some (i, vs) => callX g Γ i vs
  | none => callV g Γ vals
section
variable {M : Pm} {E : XK} {Γ : Gam} {σ : L2.St} {F0 H0 F H : Hp} {own0 own : Own} {Q : VK}
theorem args_ok : ∀ {vals : List Val} {Γ : Gam} {F H : Hp} {own : Own} {xs : List V} {ds : List D} {Γ' : Gam}, StR M Γ σ F H own → Step F0 H0 own0 F H own → ValsRd M σ F xs vals → argsF Γ vals = .ok ds Γ' →
    ∃ F' own', StR M Γ' σ F' H own' ∧ Step F0 H0 own0 F' H own' ∧ Ex F F' ∧ RepAll M.cls F' xs ds
  | [], Γ, F, H, own, xs, ds, Γ', s, st, r, e => by
    cases e
    cases r
    exact ⟨F, own, s, st, .refl _, .nil⟩
  | v :: vs, Γ, F, H, own, xs, ds, Γ', s, st, r, e => by
    cases r with
    | cons r1 r2 =>
      rename_i x xs
      simp only [argsF] at e
      cases e1 : fzV Γ v with
      | ok d Γ1 =>
        rw [e1] at e
        simp only [R.bind_ok] at e
        have rv : ValR M σ H0 F H own x v := by
          cases v with
          | f d => exact r1
          | b i => exact r1
          | n f => exact r1.elim
          | nc c f => exact r1.elim
          | nb n f => exact r1.elim
        obtain ⟨F1, own1, s1, st1, x1, p1⟩ := val_frz s st rv e1
        cases e2 : argsF Γ1 vs with
        | ok ds' Γ2 =>
          rw [e2] at e
          cases e
          obtain ⟨F2, own2, s2, st2, x2, p2⟩ := args_ok s1 st1 (r2.mono x1) e2
          exact ⟨F2, own2, s2, st2, x1.trans x2, .cons (Rep.mono x2 p1) p2⟩
        | err x Γ2 =>
          rw [e2] at e
          cases e
        | stuck =>
          rw [e2] at e
          cases e
      | err x Γ1 =>
        rw [e1] at e
        cases e
      | stuck =>
        rw [e1] at e
        cases e
theorem args_noerr {vals : List Val} {Γ : Gam} {x : Exc} {Γ' : Gam} (h : argsF Γ vals = .err x Γ') : False := by
  induction vals generalizing Γ with
  | nil => cases h
  | cons v vs ih =>
    simp only [argsF] at h
    cases e1 : fzV Γ v with
    | ok d Γ1 =>
      rw [e1] at h
      simp only [R.bind_ok] at h
      cases e2 : argsF Γ1 vs with
      | ok ds' Γ2 =>
        rw [e2] at h
        cases h
      | err y Γ2 =>
        rw [e2] at h
        simp only [R.bind_err, R.err.injEq] at h
        obtain ⟨rfl, rfl⟩ := h
        exact ih e2
      | stuck =>
        rw [e2] at h
        cases h
    | err y Γ1 =>
      cases v <;> simp only [fzV] at e1
      · cases e1
      · split at e1
        · split at e1 <;> cases e1
        · cases e1
      · cases e1
      · cases e1
      · split at e1 <;> cases e1
    | stuck =>
      rw [e1] at h
      cases h
/-- arguments that are frozen, as a state of their own -/
theorem args_state {xs : List V} {ds : List D} (fh : Ex F H) (r : RepAll M.cls F xs ds) : StR M (ds.map Slot.val) (xs.map some) F H (fun _ _ => False) where
  len := by simp [r.length]
  fh := fh
  slot := fun i s h => by
    rw [List.getElem?_map] at h
    cases hd : ds[i]? with
    | none =>
      rw [hd] at h
      cases h
    | some d =>
      rw [hd] at h
      cases h
      obtain ⟨v, h1, h2⟩ := r.at i d hd
      exact ⟨v, by rw [List.getElem?_map, h1]; rfl, fun _ h => h, h2⟩
  out := fun _ _ _ h => h
  free := fun _ _ h => h.elim
  there := fun _ _ h => h.elim
  disj := fun _ _ _ h _ => h.elim
/-! ### with or without a pinned argument -/
def npin : Slot → Bool
  | .cmp _ (some _) _ => false
  | .box _ (some _) _ => false
  | _ => true
theorem slot_up {o : Ow} {ov : Option (Option V)} {s : Slot} (h : SlotR M.b0 F H o ov s) : SlotR M F H o ov s := by
  cases s with
  | un => exact h
  | one f => cases f <;> exact h
  | cmp c pin fds =>
    obtain ⟨a, e, hp, q⟩ := h
    exact ⟨a, e, fun b hb => (nomatch hp b hb), q⟩
  | box n pin d =>
    obtain ⟨a, e, hp, q⟩ := h
    exact ⟨a, e, fun b hb => (nomatch hp b hb), q⟩
  | vw ds => exact h
theorem slot_down (a0 : Option Addr) {o : Ow} {ov : Option (Option V)} {s : Slot} (hn : npin s = true) (h : SlotR M F H o ov s) : SlotR ⟨M.K, M.cls, a0⟩ F H o ov s := by
  cases s with
  | un => exact h
  | one f => cases f <;> exact h
  | cmp c pin fds =>
    obtain ⟨a, e, hp, q⟩ := h
    cases pin with
    | none => exact ⟨a, e, fun b hb => (nomatch hb), q⟩
    | some b => cases hn
  | box n pin d =>
    obtain ⟨a, e, hp, q⟩ := h
    cases pin with
    | none => exact ⟨a, e, fun b hb => (nomatch hb), q⟩
    | some b => cases hn
  | vw ds => exact h
theorem StR.up (s : StR M.b0 Γ σ F H own) : StR M Γ σ F H own := ⟨s.len, s.fh, fun i x h => slot_up (s.slot i x h), s.out, s.free, s.there, s.disj⟩
theorem StR.down (a0 : Option Addr) (s : StR M Γ σ F H own) (hn : ∀ (i : Nat) x, Γ[i]? = some x → npin x = true) : StR ⟨M.K, M.cls, a0⟩ Γ σ F H own := ⟨s.len, s.fh, fun i x h => slot_down a0 (hn i x h) (s.slot i x h), s.out, s.free, s.there, s.disj⟩
theorem npin_unpin (s : Slot) : npin (unpin s) = true := by cases s <;> rfl
theorem npin_vals {s : Slot} (hs : npin s = true) (ds : List D) : ∀ (i : Nat) x, (s :: ds.map Slot.val)[i]? = some x → npin x = true := by
  intro i x h
  cases i with
  | zero =>
    cases h
    exact hs
  | succ i =>
    simp only [List.getElem?_cons_succ, List.getElem?_map] at h
    cases e : ds[i]? with
    | none => rw [e] at h; cases h
    | some d =>
      rw [e] at h
      cases h
      rfl
theorem grow_of {F1 H1 : Hp} {own1 : Own} (s : Step F H (fun _ _ => False) F1 H1 own1) (fh : Ex F1 H1) : Grow F H F1 H1 :=
  ⟨s.ff, fun a o h => s.hh a o h fun _ h => h, fh, fun a h1 h2 => s.nf a h1 h2 fun _ h => h⟩
theorem callV_ok {g : List Slot → R Val} {xs : List V} {vals : List Val} (s : StR M Γ σ F H own) (st : Step F0 H0 own0 F H own) (r : ValsRd M σ F xs vals) (p : PostG (relV M) M E σ F0 H0 own0 Q (callV g Γ vals)) : spG M.b0 g xs H Q E := by
  unfold callV at p
  cases e : argsF Γ vals with
  | err x Γ' => exact (args_noerr e).elim
  | stuck =>
    rw [e] at p
    exact p.elim
  | ok ds Γ1 =>
    rw [e] at p
    simp only [R.bind_ok] at p
    obtain ⟨F1, own1, s1, st1, x1, r1⟩ := args_ok s st r e
    refine ⟨ds.map Slot.val, F1, fun _ _ => False, args_state (M := M.b0) s1.fh r1, ?_⟩
    cases eg : g (ds.map Slot.val) with
    | stuck =>
      rw [eg] at p
      exact p.elim
    | err x As' =>
      rw [eg] at p
      exact fun F' H' own' dd w sA stA h1 h2 => p F' H' own1 dd w (s1.grow (grow_of stA sA.fh)) (st1.trans ((grow_of stA sA.fh).step _)) h1 h2
    | ok v As' =>
      rw [eg] at p
      simp only at p
      split at p
      · rename_i ho
        intro x F' H' own' sA stA rv
        have gr := grow_of stA sA.fh
        refine p x F' H' own1 (s1.grow gr) (st1.trans (gr.step _)) ?_
        have nw : ∀ {o}, New H F' H' own' o → New H0 F' H' own1 o := fun n a ha => by
          obtain ⟨h1, h2, h3, h4⟩ := n a ha
          exact ⟨h1, h2, fun i hi => s1.there i a hi h4, st1.none a h4⟩
        cases v with
        | f d => exact rv
        | b i => cases ho
        | n f =>
          obtain ⟨o, h1, h2⟩ := rv
          exact ⟨o, h1, nw h2⟩
        | nc c f =>
          obtain ⟨a, o, h0, h1, h2⟩ := rv
          exact ⟨a, o, h0, h1, nw h2⟩
        | nb n f =>
          obtain ⟨a, o, h0, h1, h2⟩ := rv
          exact ⟨a, o, h0, h1, nw h2⟩
      · exact p.elim
theorem repin_ok {F H : Hp} {o o' : Ow} {ov : Option (Option V)} {F' H' : Hp} {s t : Slot} (h : SlotR M F H o ov s) (hs : isBx s = true) (h' : SlotR M F' H' o' ov t) (ht : isBx t = true) : SlotR M F' H' o' ov (repin s t) := by
  cases t with
  | cmp c pin fds =>
    obtain ⟨a, e, _, q⟩ := h'
    cases s with
    | cmp c2 p2 f2 =>
      obtain ⟨a2, e2, hp, _⟩ := h
      rw [e] at e2
      cases e2
      exact ⟨a, e, hp, q⟩
    | box c2 p2 f2 =>
      obtain ⟨a2, e2, hp, _⟩ := h
      rw [e] at e2
      cases e2
      exact ⟨a, e, hp, q⟩
    | _ => cases hs
  | box c pin fds =>
    obtain ⟨a, e, _, q⟩ := h'
    cases s with
    | cmp c2 p2 f2 =>
      obtain ⟨a2, e2, hp, _⟩ := h
      rw [e] at e2
      cases e2
      exact ⟨a, e, hp, q⟩
    | box c2 p2 f2 =>
      obtain ⟨a2, e2, hp, _⟩ := h
      rw [e] at e2
      cases e2
      exact ⟨a, e, hp, q⟩
    | _ => cases hs
  | _ => cases ht
theorem unpin_ok {o : Ow} {ov : Option (Option V)} {s : Slot} (h : SlotR M F H o ov s) : SlotR M F H o ov (unpin s) := by
  cases s with
  | cmp c pin fds =>
    obtain ⟨a, e, _, q⟩ := h
    exact ⟨a, e, by simp, q⟩
  | box c pin fds =>
    obtain ⟨a, e, _, q⟩ := h
    exact ⟨a, e, by simp, q⟩
  | _ => exact h
theorem bx_ref {o : Ow} {v : V} {s : Slot} (h : SlotR M F H o (some (some v)) s) (hs : isBx s = true) : ∃ a, v = .ref a := by
  cases s with
  | cmp c pin fds =>
    obtain ⟨a, e, _⟩ := h
    cases e
    exact ⟨a, rfl⟩
  | box c pin fds =>
    obtain ⟨a, e, _⟩ := h
    cases e
    exact ⟨a, rfl⟩
  | _ => cases hs
theorem callX_ok {g : List Slot → R Val} {x : V} {xs : List V} {vals : List Val} {i : Nat} (s : StR M Γ σ F H own) (st : Step F0 H0 own0 F H own) (hx : σ[i]? = some (some x)) (r : ValsRd M σ F xs vals) (p : PostG (relV M) M E σ F0 H0 own0 Q (callX g Γ i vals)) : spG M.b0 g (x :: xs) H Q E := by
  unfold callX at p
  cases e : argsF Γ vals with
  | err x Γ' => exact (args_noerr e).elim
  | stuck =>
    rw [e] at p
    exact p.elim
  | ok ds Γ1 =>
    rw [e] at p
    simp only [R.bind_ok] at p
    obtain ⟨F1, own1, s1, st1, x1, r1⟩ := args_ok s st r e
    cases hs : Γ1[i]? with
    | none =>
      rw [hs] at p
      exact p.elim
    | some sl =>
      rw [hs] at p
      simp only at p
      by_cases hb : isBx sl = true
      · rw [if_pos hb] at p
        have hsl : SlotR M F1 H (own1 i) (some (some x)) sl := slotAt s1 hx hs
        have sA := args_state s1.fh r1
        have s2 : StR M (unpin sl :: ds.map Slot.val) ((x :: xs).map some) F1 H (fun k a => k = 0 ∧ own1 i a) := by
          refine ⟨by have := sA.len; simp at this ⊢; exact this, s1.fh, fun j y hj => ?_, fun j hj a q => ?_, fun j a q => s1.free i a q.2, fun j a q => s1.there i a q.2, fun j k a q1 q2 => by rw [q1.1, q2.1]⟩
          · cases j with
            | zero =>
              simp only [List.getElem?_cons_zero, Option.some.injEq] at hj
              subst hj
              have := unpin_ok hsl
              have e0 : (fun a => (0 : Nat) = 0 ∧ own1 i a) = own1 i := by
                funext a
                simp
              rw [e0]
              exact this
            | succ j =>
              simp only [List.getElem?_cons_succ] at hj
              have := sA.slot j y hj
              have e0 : (fun a => j + 1 = 0 ∧ own1 i a) = fun _ => False := by
                funext a
                simp
              rw [e0]
              exact this
          · obtain ⟨rfl, _⟩ := q
            simp at hj
        refine ⟨_, F1, _, s2.down none (npin_vals (npin_unpin sl) ds), ?_⟩
        have core : ∀ {s' : Slot} {As' : List Slot} {F' H' : Hp} {own' : Own}, isBx s' = true → StR M (s' :: As') ((x :: xs).map some) F' H' own' → Step F1 H (fun k a => k = 0 ∧ own1 i a) F' H' own' →
            StR M (Γ1.set i (repin sl s')) σ F' H' (putO own1 i (own' 0)) ∧ Step F1 H own1 F' H' (putO own1 i (own' 0)) := by
          intro s' As' F' H' own' hs' sB stB
          have hk : ∀ j b, j ≠ i → own1 j b → ∀ k, ¬ (k = 0 ∧ own1 i b) := fun j b hj hb k q => hj (s1.disj j i b hb q.2)
          have h0 := sB.slot 0 s' (by simp)
          simp only [List.map_cons, List.getElem?_cons_zero] at h0
          refine ⟨⟨by simp [s1.len], sB.fh, fun j y hj => ?_, fun j hj a => ?_, fun j a hj => ?_, fun j a hj => ?_, fun j k a hj hk' => ?_⟩, stB.ff, fun a o h n => stB.hh a o h fun k q => n i q.2, fun a h1 h2 n => stB.nf a h1 h2 fun k q => n i q.2, fun j a hj => ?_, stB.al⟩
          · by_cases e : j = i
            · subst e
              rw [List.getElem?_set_self (s1.lt hs)] at hj
              cases hj
              rw [putO_same, hx]
              exact repin_ok hsl hb h0 hs'
            · rw [List.getElem?_set_ne (Ne.symm e)] at hj
              rw [putO_ne e]
              exact (s1.slot j y hj).mono stB.ff fun b u q h => stB.hh b u h (hk j b e q)
          · rw [List.length_set] at hj
            rw [putO_ne (by have := s1.lt hs; omega)]
            exact s1.out j hj a
          · by_cases e : j = i
            · subst e; rw [putO_same] at hj; exact sB.free 0 a hj
            · rw [putO_ne e] at hj; exact stB.nf a (s1.free j a hj) (s1.there j a hj) (hk j a e hj)
          · by_cases e : j = i
            · subst e; rw [putO_same] at hj; exact sB.there 0 a hj
            · rw [putO_ne e] at hj; exact stB.al a (s1.there j a hj)
          · have key : ∀ j, j ≠ i → own1 j a → ¬ own' 0 a := fun j e q1 q2 => by
              rcases stB.no 0 a q2 with ⟨k, hk2⟩ | q
              · exact e (s1.disj j i a q1 hk2.2)
              · exact s1.there j a q1 q
            by_cases e : j = i
            · by_cases e' : k = i
              · rw [e, e']
              · subst e
                rw [putO_same] at hj
                rw [putO_ne e'] at hk'
                exact absurd hj (key k e' hk')
            · by_cases e' : k = i
              · subst e'
                rw [putO_same] at hk'
                rw [putO_ne e] at hj
                exact absurd hk' (key j e hj)
              · rw [putO_ne e] at hj
                rw [putO_ne e'] at hk'
                exact s1.disj j k a hj hk'
          · by_cases e : j = i
            · subst e
              rw [putO_same] at hj
              rcases stB.no 0 a hj with ⟨k, hk2⟩ | q
              · exact .inl ⟨j, hk2.2⟩
              · exact .inr q
            · rw [putO_ne e] at hj
              exact .inl ⟨j, hj⟩
        cases eg : g (unpin sl :: ds.map Slot.val) with
        | stuck =>
          rw [eg] at p
          exact p.elim
        | err y As' =>
          rw [eg] at p
          cases As' with
          | nil => exact p.elim
          | cons s' As' =>
            simp only at p
            by_cases hs' : isBx s' = true
            · rw [if_pos hs'] at p
              exact fun F' H' own' dd w sB stB h1 h2 => by
                obtain ⟨sC, stC⟩ := core hs' sB.up stB
                exact p F' H' _ dd w sC (st1.trans stC) h1 h2
            · rw [if_neg hs'] at p
              exact p.elim
        | ok v As' =>
          rw [eg] at p
          cases As' with
          | nil => exact p.elim
          | cons s' As' =>
            simp only at p
            by_cases ho : outV v = true ∧ isBx s' = true
            · rw [if_pos ho] at p
              intro y F' H' own' sB stB rv
              obtain ⟨sC, stC⟩ := core ho.2 sB.up stB
              refine p y F' H' _ sC (st1.trans stC) ?_
              have nw : ∀ {o}, New H F' H' own' o → New H0 F' H' (putO own1 i (own' 0)) o := fun n a ha => by
                obtain ⟨h1, h2, h3, h4⟩ := n a ha
                refine ⟨h1, h2, fun j hj => ?_, st1.none a h4⟩
                by_cases e : j = i
                · subst e; rw [putO_same] at hj; exact h3 0 hj
                · rw [putO_ne e] at hj; exact s1.there j a hj h4
              cases v with
              | f d => exact rv
              | b i => cases ho.1
              | n f =>
                obtain ⟨o, h1, h2⟩ := rv
                exact ⟨o, h1, nw h2⟩
              | nc c f =>
                obtain ⟨a, o, h0, h1, h2⟩ := rv
                exact ⟨a, o, h0, h1, nw h2⟩
              | nb n f =>
                obtain ⟨a, o, h0, h1, h2⟩ := rv
                exact ⟨a, o, h0, h1, nw h2⟩
            · rw [if_neg ho] at p
              exact p.elim
      · rw [if_neg hb] at p
        exact p.elim
theorem callG_ok {g : List Slot → R Val} {xs : List V} {vals : List Val} (s : StR M Γ σ F H own) (st : Step F0 H0 own0 F H own) (r : ValsRd M σ F xs vals) (p : PostG (relV M) M E σ F0 H0 own0 Q (callG g Γ vals)) : spG M.b0 g xs H Q E := by
  unfold callG at p
  split at p
  · rename_i i vs hh
    unfold headBx at hh
    split at hh
    · split at hh
      · split at hh
        · cases hh
          cases r with
          | cons r1 r2 => exact callX_ok s st r1 r2 p
        · cases hh
      · cases hh
    · cases hh
  · exact callV_ok s st r p
end
section
variable {X : Cx} {M : Pm} {E : XK} {a b c e o : Expr} {es : List Expr} {m mo : Gam → R Val} {ms : Gam → R (List Val)} {pos p apos : Pos}
variable {CX : CXT} {k : Nat} {f C : Addr} {fd : FuncData} {ps : List Str} {x name : Str} {g : List Slot → R Val}
theorem e_call (F : FnOk X.prog X.w X.K X.mg X.base CX k f fd ps (spG M.b0 g)) (hr : Room k X.A) (hg : Gl X x) (hm : X.mg x = some (.ref f)) (hk : PySem.W.keepIn X.K (.ref f) = true) (hb : Binds X.K fd ps []) (hx : Passes CX X E)
    (ha : PA X (e :: es) (tA M E ms)) (hdb : (x == ("__debug__" : Str)) = false := by decide) (he : starEach (e :: es) X.env = (false, eval e X.env) :: starEach es X.env := by rfl) (hpl : (backTo pos (starEach es X.env)).any (·.1) = false := by rfl) :
    PE X (.Call (.Name x p) (e :: es) [] pos) (tE M E (callM (callG g) ms)) := PE_weak (pe_call F hr hg hm hk hb .nil hx ha hdb he hpl) fun σ H Q q => by
  obtain ⟨Γ, F, own, st, p⟩ := q
  refine ⟨Γ, F, own, st, post_bind p fun F1 H1 own1 Γ1 xs vs _ st1 s1 r1 p1 => ?_⟩
  rw [List.append_nil]
  exact callG_ok st1 s1 r1 p1
theorem e_call0 (F : FnOk X.prog X.w X.K X.mg X.base CX k f fd ps (spG M.b0 g)) (hr : Room k X.A) (hg : Gl X x) (hm : X.mg x = some (.ref f)) (hk : PySem.W.keepIn X.K (.ref f) = true) (hb : Binds X.K fd ps []) (hx : Passes CX X E)
    (hdb : (x == ("__debug__" : Str)) = false := by decide) : PE X (.Call (.Name x p) [] [] pos) (tE M E (fun Γ => callG g Γ [])) := PE_weak (pe_call0 F hr hg hm hk hb .nil hx hdb) fun σ H Q q => by
  obtain ⟨Γ, F, own, st, p⟩ := q
  exact callG_ok st (.refl _ _ _) .nil p
/-- the class and the fields' names of an instance -/
def viewC (Γ : Gam) (v : Val) : Option (Str × List Str) := match viewI Γ v with
  | some (c, fds) => some (c, fds.map (·.1))
  | none => match v with
    | .b i => match Γ[i]? with
      | some (.box n _ _) => bclsT n
      | _ => none
    | _ => none
theorem view_C {Γ : Gam} {σ : L2.St} {F H : Hp} {own : Own} {x : V} {a : Val} {c : Str} {ns : List Str} (s : StR M Γ σ F H own) (h : ValRd M σ F x a) (e : viewC Γ a = some (c, ns)) :
    ∃ p dx fs, x = .ref p ∧ H p = some (.ins (M.cls c) dx fs) ∧ fs.map (·.1) = ns := by
  unfold viewC at e
  split at e
  · rename_i c' fds hv
    cases e
    obtain ⟨p, dx, fs, h1, h2, h3, _⟩ := view_I s h hv
    exact ⟨p, dx, fs, h1, h2, h3⟩
  · split at e
    · split at e
      · rename_i n pin d hd
        obtain ⟨a', h1, _, h2⟩ := slotAt s h hd
        cases h1
        obtain ⟨dx, fs, h3, h4⟩ := box_ins h2 e
        exact ⟨a', dx, fs, rfl, h3, h4⟩
      · cases e
    · cases e
theorem look_not : ∀ {fs : List (Str × V)} {m : Str}, m ∉ fs.map (·.1) → fs.lookup m = none
  | [], m, _ => rfl
  | p :: r, m, h => by
    simp only [List.map_cons, List.mem_cons, not_or] at h
    rw [List.lookup_cons]
    have : (m == p.1) = false := by
      simp
      exact h.1
    rw [this, look_not h.2]
def methM (cl name : Str) (g : List Slot → R Val) (mo : Gam → R Val) (ms : Gam → R (List Val)) : Gam → R Val := fun Γ => (rd mo Γ).bind fun v Γ1 => match viewC Γ1 v with
  | some (c, ns) => if c = cl ∧ name ∉ ns then (ms Γ1).bind fun vs Γ2 => callG g Γ2 (v :: vs) else .stuck
  | none => .stuck
theorem e_meth {cl : Str} {pl : Sem Bool} (he : PE X o (tE M E mo)) (c : Cls X.K (M.cls cl)) (hm : Meth X.K (M.cls cl) name f) (F : FnOk X.prog X.w X.K X.mg X.base CX k f fd ps (spG M.b0 g)) (hr : Room k X.A) (hb : Binds X.K fd ps []) (hx : Passes CX X E) (ha : PA X (e :: es) (tA M E ms))
    (hst : starEach (e :: es) X.env = (false, eval e X.env) :: starEach es X.env := by rfl) (hpl : (backTo pos (starEach es X.env)).any (·.1) = false := by rfl)
    (ht : eval (.Call (.Attribute o name apos) (e :: es) [] pos) X.env = (do
      let ov ← eval o X.env
      standAt apos.atName
      let (f, first) ← holding [ov] (getMethod ov name pl)
      callWith pos f first (backTo pos (starEach (e :: es) X.env)) (backToKw pos (keywordEach [] X.env))) := by rfl) :
    PE X (.Call (.Attribute o name apos) (e :: es) [] pos) (tE M E (methM cl name g mo ms)) := PE_weak (pe_meth (pe_rd he) c hm F hr hb .nil hx ha hst hpl ht) fun σ H Q q => by
  obtain ⟨Γ, F, own, st, p⟩ := q
  refine ⟨Γ, F, own, st, post_bind p fun F1 H1 own1 Γ1 x va _ st1 s1 r1 p1 => ?_⟩
  split at p1
  · rename_i c' ns hv
    split at p1
    · rename_i hc
      obtain ⟨rfl, hn⟩ := hc
      obtain ⟨q, dx, fs, rfl, h1, h2⟩ := view_C st1 r1 hv
      refine ⟨q, dx, fs, rfl, h1, look_not (by rw [h2]; exact hn), Γ1, F1, own1, st1, post_bind (p1.mono (back_V M) s1) fun F2 H2 own2 Γ2 xs vs _ st2 s2 r2 p2 => ?_⟩
      rw [List.append_nil]
      exact callG_ok st2 s2 (.cons (ValRd.mono s2.ff r1) r2) p2
    · exact p1.elim
  · exact p1.elim
theorem e_meth0 {cl : Str} {pl : Sem Bool} (he : PE X o (tE M E mo)) (c : Cls X.K (M.cls cl)) (hm : Meth X.K (M.cls cl) name f) (F : FnOk X.prog X.w X.K X.mg X.base CX k f fd ps (spG M.b0 g)) (hr : Room k X.A) (hb : Binds X.K fd ps []) (hx : Passes CX X E)
    (ht : eval (.Call (.Attribute o name apos) [] [] pos) X.env = (do
      let ov ← eval o X.env
      standAt apos.atName
      let (f, first) ← holding [ov] (getMethod ov name pl)
      callWith pos f first (backTo pos (starEach [] X.env)) (backToKw pos (keywordEach [] X.env))) := by rfl) :
    PE X (.Call (.Attribute o name apos) [] [] pos) (tE M E (methM cl name g mo nilA)) := PE_weak (pe_meth0 (pe_rd he) c hm F hr hb .nil hx ht) fun σ H Q q => by
  obtain ⟨Γ, F, own, st, p⟩ := q
  refine ⟨Γ, F, own, st, post_bind p fun F1 H1 own1 Γ1 x va _ st1 s1 r1 p1 => ?_⟩
  split at p1
  · rename_i c' ns hv
    split at p1
    · rename_i hc
      obtain ⟨rfl, hn⟩ := hc
      obtain ⟨q, dx, fs, rfl, h1, h2⟩ := view_C st1 r1 hv
      exact ⟨q, dx, fs, rfl, h1, look_not (by rw [h2]; exact hn), callG_ok st1 s1 (.cons r1 .nil) p1⟩
    · exact p1.elim
  · exact p1.elim
/-! ### C(..) -/
def makeV (cl : Str) (g : List Slot → R Val) (Γ : Gam) (vals : List Val) : R Val := (argsF Γ vals).bind fun ds Γ1 => match g (.cmp cl none [] :: ds.map Slot.val) with
  | .ok (.f .none) (.cmp c _ fds :: _) => .ok (.nc c fds) Γ1
  | .ok (.f .none) (.box n _ d :: _) => .ok (.nb n d) Γ1
  | .err e _ => .err e Γ1
  | _ => .stuck
theorem make_ok {Γ : Gam} {σ : L2.St} {F0 H0 F H : Hp} {own0 own : Own} {Q : VK} {cl : Str} {xs : List V} {vals : List Val} (s : StR M Γ σ F H own) (st : Step F0 H0 own0 F H own) (r : ValsRd M σ F xs vals) (p : PostG (relV M) M E σ F0 H0 own0 Q (makeV cl g Γ vals))
    (x dx : Addr) (nx : H x = none) (ndx : H dx = none) (nex : dx ≠ x) : spG M.b0 g (.ref x :: (xs ++ [])) (upd (upd H dx (.own x)) x (.ins (M.cls cl) dx [])) (fun v H2 => v = .non ∧ Q (.ref x) H2) E := by
  rw [List.append_nil]
  unfold makeV at p
  cases e : argsF Γ vals with
  | err x Γ' => exact (args_noerr e).elim
  | stuck =>
    rw [e] at p
    exact p.elim
  | ok ds Γ1 =>
    rw [e] at p
    simp only [R.bind_ok] at p
    obtain ⟨F1, own1, s1, st1, x1, r1⟩ := args_ok s st r e
    have exH : Ex H (upd (upd H dx (.own x)) x (.ins (M.cls cl) dx [])) := fun a o h => by
      rw [upd_ne (ne_of_none h nx), upd_ne (ne_of_none h ndx)]
      exact h
    have g0 : Grow F1 H F1 (upd (upd H dx (.own x)) x (.ins (M.cls cl) dx [])) := ⟨.refl _, exH, s1.fh.trans exH, fun _ h _ => h⟩
    have s2 := s1.grow g0
    have st2 := st1.trans (g0.step own1)
    have sA := args_state s2.fh r1
    have s3 : StR M (.cmp cl none [] :: ds.map Slot.val) ((.ref x :: xs).map some) F1 (upd (upd H dx (.own x)) x (.ins (M.cls cl) dx [])) (fun k a => k = 0 ∧ a = x) := by
      refine ⟨by have := sA.len; simp at this ⊢; exact this, s2.fh, fun j y hj => ?_, fun j hj a q => ?_, fun j a q => ?_, fun j a q => ?_, fun j k a q1 q2 => by rw [q1.1, q2.1]⟩
      · cases j with
        | zero =>
          simp only [List.getElem?_cons_zero, Option.some.injEq] at hj
          subst hj
          refine ⟨x, by simp, by simp, dx, [], upd_same, fun b => by simp, rfl, .nil⟩
        | succ j =>
          simp only [List.getElem?_cons_succ] at hj
          have := sA.slot j y hj
          have e0 : (fun a => j + 1 = 0 ∧ a = x) = fun _ => False := by
            funext a
            simp
          rw [e0]
          exact this
      · obtain ⟨rfl, _⟩ := q
        simp at hj
      · rw [q.2]
        exact s1.fh.back nx
      · rw [q.2, upd_same]
        simp
    refine ⟨_, F1, _, s3.down none (npin_vals rfl ds), ?_⟩
    have gr : ∀ {F' H' : Hp} {own' : Own} {As' : List Slot} {σ' : L2.St}, StR M.b0 As' σ' F' H' own' → Step F1 (upd (upd H dx (.own x)) x (.ins (M.cls cl) dx [])) (fun k a => k = 0 ∧ a = x) F' H' own' → Grow F1 H F' H' := fun {F' H' own' As' σ'} sB stB =>
      ⟨stB.ff, fun a o h => stB.hh a o (exH a o h) (fun k q => by rw [q.2, nx] at h; cases h), sB.fh, fun a h1 h2 => stB.nf a h1 (fun q => h2 (exH.back q)) (fun k q => h2 (by rw [q.2]; exact nx))⟩
    cases eg : g (.cmp cl none [] :: ds.map Slot.val) with
    | stuck =>
      rw [eg] at p
      exact p.elim
    | err y As' =>
      rw [eg] at p
      exact fun F' H' own' dd w sB stB h1 h2 => p F' H' own1 dd w (s1.grow (gr sB stB)) (st1.trans ((gr sB stB).step _)) h1 h2
    | ok v As' =>
      rw [eg] at p
      have own_new : ∀ {F' H' : Hp} {own' : Own} {σ' : L2.St}, StR M.b0 As' σ' F' H' own' → Step F1 (upd (upd H dx (.own x)) x (.ins (M.cls cl) dx [])) (fun k a => k = 0 ∧ a = x) F' H' own' → New H0 F' H' own1 (own' 0) := fun {F' H' own' σ'} sB stB a ha => by
        have hn : H a = none := by
          rcases stB.no 0 a ha with ⟨k, hk⟩ | q
          · rw [hk.2]
            exact nx
          · exact exH.back q
        exact ⟨sB.free 0 a ha, sB.there 0 a ha, fun i hi => s1.there i a hi hn, st1.none a hn⟩
      intro y F' H' own' sB stB rv
      have G := gr sB stB
      split at p
      · rename_i c pin fds rest he
        cases he
        cases rv
        refine ⟨rfl, p _ F' H' own1 (s1.grow G) (st1.trans (G.step _)) ?_⟩
        obtain ⟨a, ea, _, q⟩ := sB.slot 0 (.cmp c pin fds) (by simp)
        simp at ea
        subst ea
        exact ⟨_, own' 0, rfl, q, own_new sB stB⟩
      · rename_i c pin fds rest he
        cases he
        cases rv
        refine ⟨rfl, p _ F' H' own1 (s1.grow G) (st1.trans (G.step _)) ?_⟩
        obtain ⟨a, ea, _, q⟩ := sB.slot 0 (.box c pin fds) (by simp)
        simp at ea
        subst ea
        exact ⟨_, own' 0, rfl, q, own_new sB stB⟩
      · rename_i he
        cases he
      · exact p.elim
theorem e_make {cl : Str} (Mk_ : Mk X.K (M.cls cl) f) (F : FnOk X.prog X.w X.K X.mg X.base CX k f fd ps (spG M.b0 g)) (hr : Room (k + 1) X.A) (hg : Gl X x) (hm : X.mg x = some (.ref (M.cls cl))) (hb : Binds X.K fd ps []) (hx : Passes CX X E)
    (ha : PA X (e :: es) (tA M E ms)) (hdb : (x == ("__debug__" : Str)) = false := by decide) (he : starEach (e :: es) X.env = (false, eval e X.env) :: starEach es X.env := by rfl) (hpl : (backTo pos (starEach es X.env)).any (·.1) = false := by rfl) :
    PE X (.Call (.Name x p) (e :: es) [] pos) (tE M E (callM (makeV cl g) ms)) := PE_weak (pe_make Mk_ F hr hg hm hb .nil hx ha hdb he hpl) fun σ H Q q => by
  obtain ⟨Γ, F, own, st, p⟩ := q
  exact ⟨Γ, F, own, st, post_bind p fun F1 H1 own1 Γ1 xs vs _ st1 s1 r1 p1 => make_ok st1 s1 r1 p1⟩
theorem e_make0 {cl : Str} (Mk_ : Mk X.K (M.cls cl) f) (F : FnOk X.prog X.w X.K X.mg X.base CX k f fd ps (spG M.b0 g)) (hr : Room (k + 1) X.A) (hg : Gl X x) (hm : X.mg x = some (.ref (M.cls cl))) (hb : Binds X.K fd ps []) (hx : Passes CX X E)
    (hdb : (x == ("__debug__" : Str)) = false := by decide) : PE X (.Call (.Name x p) [] [] pos) (tE M E (fun Γ => makeV cl g Γ [])) := PE_weak (pe_make0 Mk_ F hr hg hm hb .nil hx hdb) fun σ H Q q => by
  obtain ⟨Γ, F, own, st, p⟩ := q
  exact make_ok st (.refl _ _ _) .nil p
end
end DL
end

section
set_option Elab.async false
set_option linter.all false
set_option maxRecDepth 100000
set_option maxHeartbeats 1000000
/-! DL7: targets, statements, loops, comprehensions. -/
namespace DL
open PySem PySem.Spec PyProof.Rows L2

inductive RS where
  | nx (Γ : Gam)
  | rt (v : Val) (Γ : Gam)
  | bk (Γ : Gam)
  | ct (Γ : Gam)
  | err (e : Exc) (Γ : Gam)
  | stuck
def PostS (M : Pm) (E : XK) (F H : Hp) (own : Own) (D : Ends) : RS → Prop
  | .nx Γ' => ∀ σ' F' H' own', StR M Γ' σ' F' H' own' → Step F H own F' H' own' → D.nx σ' H'
  | .bk Γ' => ∀ σ' F' H' own', StR M Γ' σ' F' H' own' → Step F H own F' H' own' → D.bk σ' H'
  | .ct Γ' => ∀ σ' F' H' own', StR M Γ' σ' F' H' own' → Step F H own F' H' own' → D.ct σ' H'
  | .rt v Γ' => ∀ x σ' F' H' own', StR M Γ' σ' F' H' own' → Step F H own F' H' own' → ValR M σ' H F' H' own' x v → D.rt x H'
  | .err e Γ' => ∀ σ', ErrP M E σ' F H own e Γ'
  | .stuck => False
theorem PostS.mono {M : Pm} {E : XK} {F H F1 H1 : Hp} {own own1 : Own} {D : Ends} (s : Step F H own F1 H1 own1) : ∀ {r : RS}, PostS M E F H own D r → PostS M E F1 H1 own1 D r
  | .nx Γ', h => fun σ' F' H' own' st s' => h σ' F' H' own' st (s.trans s')
  | .bk Γ', h => fun σ' F' H' own' st s' => h σ' F' H' own' st (s.trans s')
  | .ct Γ', h => fun σ' F' H' own' st s' => h σ' F' H' own' st (s.trans s')
  | .rt v Γ', h => fun x σ' F' H' own' st s' rv => h x σ' F' H' own' st (s.trans s') (back_V M _ _ _ _ _ _ _ _ s.none rv)
  | .err e Γ', h => fun σ' F' H' own' dd w st s' h1 h2 => h σ' F' H' own' dd w st (s.trans s') h1 h2
  | .stuck, h => h
def tS (M : Pm) (E : XK) (m : Gam → RS) : TS := fun D σ H => ∃ Γ F own, StR M Γ σ F H own ∧ PostS M E F H own D (m Γ)
/-- an evaluation within a statement -/
theorem post_stm {α β : Type} {rel : Rel β α} {M : Pm} {E : XK} {r : R α} {k : α → Gam → RS} {σ : L2.St} {F0 H0 : Hp} {own0 : Own} {D : Ends} {Q' : β → Hp → Prop}
    (p : PostS M E F0 H0 own0 D (match r with | .ok a Γ => k a Γ | .err e Γ => .err e Γ | .stuck => .stuck))
    (hk : ∀ F1 H1 own1 Γ1 x a, r = .ok a Γ1 → StR M Γ1 σ F1 H1 own1 → Step F0 H0 own0 F1 H1 own1 → rel σ H0 F1 H1 own1 x a → PostS M E F0 H0 own0 D (k a Γ1) → Q' x H1) : PostG rel M E σ F0 H0 own0 Q' r := by
  cases e : r with
  | ok a Γ1 =>
    simp only [e] at p
    exact fun x F1 H1 own1 st1 s1 v => hk F1 H1 own1 Γ1 x a e st1 s1 v p
  | err x Γ1 =>
    simp only [e] at p
    exact p σ
  | stuck =>
    simp only [e] at p
    exact p
def stm {α : Type} (r : R α) (k : α → Gam → RS) : RS := match r with
  | .ok a Γ => k a Γ
  | .err e Γ => .err e Γ
  | .stuck => .stuck
@[simp] theorem stm_ok {α : Type} (a : α) (Γ : Gam) (k : α → Gam → RS) : stm (.ok a Γ) k = k a Γ := rfl
@[simp] theorem stm_err {α : Type} (e : Exc) (Γ : Gam) (k : α → Gam → RS) : stm (.err e Γ) k = .err e Γ := rfl
@[simp] theorem stm_stuck {α : Type} (k : α → Gam → RS) : stm .stuck k = .stuck := rfl
section
variable {X : Cx} {st : Stmt} {sts : List Stmt}
theorem PS_weak {t t' : TS} (h : PS X st t) (w : ∀ D σ H, t' D σ H → t D σ H) : PS X st t' := ⟨fun pins s σ H D I q => h.run pins s σ H D I (w D σ H q)⟩
theorem PSs_weak {t t' : TS} (h : PSs X sts t) (w : ∀ D σ H, t' D σ H → t D σ H) : PSs X sts t' := ⟨fun pins s σ H D I q => h.run pins s σ H D I (w D σ H q)⟩
theorem PG_weak {e : Expr} {t t' : TG} (h : PG X e t) (w : ∀ v σ H Q, t' v σ H Q → t v σ H Q) : PG X e t' := ⟨fun pins s σ H v u Q I r q => h.run pins s σ H v u Q I r (w v σ H Q q)⟩
theorem PGs_weak {es : List Expr} {t t' : TGs} (h : PGs X es t) (w : ∀ v σ H Q, t' v σ H Q → t v σ H Q) : PGs X es t' := ⟨fun pins s σ H v u Q I r q => h.run pins s σ H v u Q I r (w v σ H Q q)⟩
theorem PI_weak {tg e : Expr} {t t' : TI} (h : PI X tg e t) (w : ∀ σ H Q, t' σ H Q → t σ H Q) : PI X tg e t' := ⟨fun pins s σ H R I q => h.run pins s σ H R I (w σ H R q)⟩
end

/-! ### blocks -/
def nextM : Gam → RS := fun Γ => .nx Γ
def seqM (m n : Gam → RS) : Gam → RS := fun Γ => match m Γ with
  | .nx Γ1 => n Γ1
  | r => r
section
variable {X : Cx} {M : Pm} {E : XK} {st : Stmt} {rest : List Stmt} {e a b c : Expr} {m n : Gam → RS} {me : Gam → R Val} {pos : Pos}
theorem ss_nil : PSs X [] (tS M E nextM) := PSs_weak pss_nil fun D σ H ⟨Γ, F, own, s, p⟩ => p σ F H own s (.refl _ _ _)
theorem ss_one (h : PS X st (tS M E m)) : PSs X [st] (tS M E m) := pss_one h
theorem ss_cons (h : PS X st (tS M E m)) (h2 : PSs X rest (tS M E n)) : PSs X (st :: rest) (tS M E (seqM m n)) := PSs_weak (pss_cons h h2) fun D σ H ⟨Γ, F, own, s, p⟩ => by
  refine ⟨Γ, F, own, s, ?_⟩
  unfold seqM at p
  cases e : m Γ with
  | nx Γ1 =>
    rw [e] at p
    exact fun σ' F' H' own' s' st' => ⟨Γ1, F', own', s', p.mono st'⟩
  | rt v Γ1 => rw [e] at p; exact p
  | bk Γ1 => rw [e] at p; exact p
  | ct Γ1 => rw [e] at p; exact p
  | err x Γ1 => rw [e] at p; exact p
  | stuck => rw [e] at p; exact p
/-! ### small statements -/
theorem s_pass : PS X (.Pass pos) (tS M E nextM) := PS_weak ps_pass fun D σ H ⟨Γ, F, own, s, p⟩ => p σ F H own s (.refl _ _ _)
theorem s_break : PS X (.Break pos) (tS M E fun Γ => .bk Γ) := PS_weak ps_break fun D σ H ⟨Γ, F, own, s, p⟩ => p σ F H own s (.refl _ _ _)
theorem s_continue : PS X (.Continue pos) (tS M E fun Γ => .ct Γ) := PS_weak ps_continue fun D σ H ⟨Γ, F, own, s, p⟩ => p σ F H own s (.refl _ _ _)
theorem s_never : PS X st (tS M E fun _ => .stuck) := PS_weak ps_never fun D σ H ⟨Γ, F, own, s, p⟩ => p
def exprM (m : Gam → R Val) : Gam → RS := fun Γ => stm (m Γ) fun _ Γ1 => .nx Γ1
theorem s_expr (h : PE X e (tE M E me)) (hs : swapsWith e none pos.line X.env = pure false := by rfl) : PS X (.Expr e pos) (tS M E (exprM me)) := PS_weak (ps_expr h hs) fun D σ H ⟨Γ, F, own, s, p⟩ =>
  ⟨Γ, F, own, s, post_stm p fun F1 H1 own1 Γ1 x a _ s1 st1 r p1 => p1 σ F1 H1 own1 s1 st1⟩
/-- a returned value: one in a slot is frozen -/
def retV (v : Val) (Γ : Gam) : RS := match v with
  | .b i => stm (fzV Γ (.b i)) fun d Γ1 => .rt (.f d) Γ1
  | v => .rt v Γ
def retM (m : Gam → R Val) : Gam → RS := fun Γ => stm (m Γ) (retV)
theorem s_ret (h : PE X e (tE M E me)) : PS X (.Return (some e) pos) (tS M E (retM me)) := PS_weak (ps_ret h) fun D σ H ⟨Γ, F, own, s, p⟩ =>
  ⟨Γ, F, own, s, post_stm p fun F1 H1 own1 Γ1 x a _ s1 st1 r p1 => by
    cases a with
    | b i =>
      simp only [retV] at p1
      cases e : fzV Γ1 (.b i) with
      | stuck => rw [e] at p1; exact p1.elim
      | err y Γ2 =>
        simp only [fzV] at e
        split at e
        · split at e <;> cases e
        · cases e
      | ok d Γ2 =>
        rw [e] at p1
        obtain ⟨F', own', s2, st2, _, r2⟩ := val_frz s1 st1 r e
        exact p1 x σ F' H1 own' s2 st2 r2
    | f d => exact p1 x σ F1 H1 own1 s1 st1 r
    | n f => exact p1 x σ F1 H1 own1 s1 st1 r
    | nc c f => exact p1 x σ F1 H1 own1 s1 st1 r
    | nb n f => exact p1 x σ F1 H1 own1 s1 st1 r⟩
theorem s_retN : PS X (.Return none pos) (tS M E fun Γ => .rt (.f .none) Γ) := PS_weak ps_retN fun D σ H ⟨Γ, F, own, s, p⟩ => p .non σ F H own s (.refl _ _ _) .non
def ifS (t : Gam → R Bool) (m n : Gam → RS) : Gam → RS := fun Γ => stm (t Γ) fun c Γ1 => if c = true then m Γ1 else n Γ1
theorem s_if {t : Gam → R Bool} {ba bb : List Stmt} (hc : PT X c (tT M E t)) (ha : PSs X ba (tS M E m)) (hb : PSs X bb (tS M E n)) : PS X (.If c ba bb pos) (tS M E (ifS t m n)) := PS_weak (ps_if hc ha hb) fun D σ H ⟨Γ, F, own, s, p⟩ =>
  ⟨Γ, F, own, s, post_stm p fun F1 H1 own1 Γ1 x a _ s1 st1 r p1 => by
    cases r
    by_cases h : x = true
    · rw [if_pos h] at p1 ⊢
      exact ⟨Γ1, F1, own1, s1, p1.mono st1⟩
    · rw [if_neg h] at p1 ⊢
      exact ⟨Γ1, F1, own1, s1, p1.mono st1⟩⟩
/-! ### targets -/
def tGt (M : Pm) (ts : List Nat) (tg : D → Gam → Option Gam) : TG := fun v σ H Q => ∃ Γ F own d, StR M Γ σ F H own ∧ Rep M.cls F v d ∧ match tg d Γ with
  | some Γ' => ∀ σ' own', StR M Γ' σ' F H own' → Step F H own F H own' → (∀ j, j ∉ ts → σ'[j]? = σ[j]?) → σ'.length = σ.length → Q σ' H
  | none => False
def tGts (M : Pm) (ts : List Nat) (tg : List D → Gam → Option Gam) : TGs := fun vs σ H Q => ∃ Γ F own ds, StR M Γ σ F H own ∧ RepAll M.cls F vs ds ∧ match tg ds Γ with
  | some Γ' => ∀ σ' own', StR M Γ' σ' F H own' → Step F H own F H own' → (∀ j, j ∉ ts → σ'[j]? = σ[j]?) → σ'.length = σ.length → Q σ' H
  | none => False
def tgN (i : Nat) (d : D) (Γ : Gam) : Option Gam := if i < Γ.length then some (Γ.set i (.val d)) else none
def tgNil (ds : List D) (Γ : Gam) : Option Gam := match ds with
  | [] => some Γ
  | _ => none
def tgCons (t : D → Gam → Option Gam) (u : List D → Gam → Option Gam) (ds : List D) (Γ : Gam) : Option Gam := match ds with
  | [] => none
  | d :: r => (t d Γ).bind (u r)
def tgT (n : Nat) (u : List D → Gam → Option Gam) (d : D) (Γ : Gam) : Option Gam := match d with
  | .tuple ds => if ds.length = n then u ds Γ else none
  | _ => none
theorem step_own {F H : Hp} {own own' : Own} (h : ∀ i a, own' i a → (∃ j, own j a) ∨ H a = none) : Step F H own F H own' := ⟨.refl _, fun _ _ h _ => h, fun _ h _ _ => h, h, fun _ h => h⟩
theorem StR.setv {M : Pm} {Γ : Gam} {σ : L2.St} {F H : Hp} {own : Own} {i : Nat} {v : V} {d : D} (s : StR M Γ σ F H own) (hi : i < Γ.length) (r : Rep M.cls F v d) :
    StR M (Γ.set i (.val d)) (σ.set i (some v)) F H (putO own i fun _ => False) ∧ Step F H own F H (putO own i fun _ => False) :=
  ⟨s.put hi ⟨v, rfl, fun _ h => h, r⟩ (fun _ h => h.elim) (fun _ h => h.elim) fun _ h => h.elim, step_own fun j a h => by
    by_cases e : j = i
    · subst e; rw [putO_same] at h; exact h.elim
    · rw [putO_ne e] at h; exact .inl ⟨j, h⟩⟩
theorem g_name {i : Nat} {x : Str} (hN : X.N.Nodup) (hi : X.N[i]? = some x) (hx : Loc X.env.scope x) (hf : X.fn x = true ∨ X.env.scope.names.lookup x = some .local := by first | exact .inl rfl | exact .inr rfl | assumption) : PG X (.Name x pos) (tGt M [i] (tgN i)) := PG_weak (pg_name hN hi hx hf) fun v σ H Q ⟨Γ, F, own, d, s, r, h⟩ => by
  unfold tgN at h
  split at h
  · rename_i Γ' hg
    split at hg
    · rename_i hl
      cases hg
      exact h _ _ (s.setv hl r).1 (s.setv hl r).2 (fun j hj => List.getElem?_set_ne (by simp at hj; exact fun e => hj e.symm)) (by simp)
    · cases hg
  · exact h.elim
theorem gs_nil : PGs X [] (tGts M [] tgNil) := PGs_weak pgs_nil fun v σ H Q ⟨Γ, F, own, ds, s, r, h⟩ => by
  cases r with
  | nil => exact ⟨rfl, h σ own s (.refl _ _ _) (fun _ _ => rfl) rfl⟩
  | cons _ _ => exact h.elim
theorem gs_cons {es : List Expr} {t : D → Gam → Option Gam} {u : List D → Gam → Option Gam} {t1 t2 : List Nat} (h1 : PG X e (tGt M t1 t)) (h2 : PGs X es (tGts M t2 u))
    (hs : (assignEach (e :: es) X.env).map (·.2) = assign e X.env :: (assignEach es X.env).map (·.2) := by rfl) : PGs X (e :: es) (tGts M (t1 ++ t2) (tgCons t u)) := PGs_weak (pgs_cons h1 h2 hs) fun v σ H Q ⟨Γ, F, own, ds, s, r, h⟩ => by
  cases r with
  | nil => exact h.elim
  | @cons v vs d ds r1 r2 =>
    refine ⟨v, vs, rfl, Γ, F, own, d, s, r1, ?_⟩
    simp only [tgCons] at h
    cases e : t d Γ with
    | none =>
      rw [e] at h
      exact h.elim
    | some Γ1 =>
      rw [e] at h
      intro σ1 own1 s1 st1 k1 l1
      refine ⟨Γ1, F, own1, ds, s1, r2, ?_⟩
      simp only [Option.bind_some] at h
      split at h
      · exact fun σ2 own2 s2 st2 k2 l2 => h σ2 own2 s2 (st1.trans st2) (fun j hj => by
          simp only [List.mem_append, not_or] at hj
          rw [k2 j hj.2, k1 j hj.1]) (l2.trans l1)
      · exact h.elim
theorem g_tup {es : List Expr} {k n : Nat} {ts : List Nat} {u : List D → Gam → Option Gam} (hc : X.calm = true) (h : PGs X es (tGts M ts u)) (hn : (assignEach es X.env).length = n := by rfl) (hst : (assignEach es X.env).findIdx? (·.1) = none := by rfl) :
    PG X (.Tuple es k pos) (tGt M ts (tgT n u)) := PG_weak (pg_tup hc h hn hst) fun v σ H Q ⟨Γ, F, own, d, s, r, h⟩ => by
  unfold tgT at h
  cases d with
  | tuple ds =>
    obtain ⟨a, vs, rfl, h1, h2⟩ := Rep.invU r
    simp only at h
    split at h
    · rename_i Γ' hg
      split at hg
      · rename_i hl
        refine ⟨a, vs, rfl, .inl (rd_up s.fh h1), by rw [h2.length]; exact hl, Γ, F, own, ds, s, h2, ?_⟩
        rw [hg]
        exact h
      · cases hg
    · exact h.elim
  | _ => exact h.elim
/-! ### assignments -/
def asgM (m : Gam → R Val) (tg : D → Gam → Option Gam) : Gam → RS := fun Γ => stm (fzL m Γ) fun d Γ1 => match tg d Γ1 with
  | some Γ2 => .nx Γ2
  | none => .stuck
theorem s_asg {tg : Expr} {ts : List Nat} {t : D → Gam → Option Gam} (he : PE X e (tE M E me)) (hg : PG X tg (tGt M ts t)) (hs : swapsWithSole [tg] e pos.line X.env = pure false := by rfl) (hw : swappedStores [tg] e X.env = pure none := by rfl)
    (h1 : (assignEach [tg] X.env).map (·.2) = [assign tg X.env] := by rfl) : PS X (.Assign [tg] e pos) (tS M E (asgM me t)) := PS_weak (ps_asg (pe_fz he) hg hs hw h1) fun D σ H ⟨Γ, F, own, s, p⟩ =>
  ⟨Γ, F, own, s, post_stm p fun F1 H1 own1 Γ1 x a _ s1 st1 r p1 => by
    refine ⟨Γ1, F1, own1, a, s1, r, ?_⟩
    split at p1
    · exact fun σ' own' s' st' _ _ => p1 σ' F1 H1 own' s' (st1.trans st')
    · exact p1.elim⟩
/-- x = e: what is new belongs to the slot -/
def setV (i : Nat) (v : Val) (Γ : Gam) : RS := if i < Γ.length then match v with
    | .f d => .nx (Γ.set i (.val d))
    | .n f => .nx (Γ.set i (.one f))
    | .nc c fds => .nx (Γ.set i (.cmp c none fds))
    | .nb n d => .nx (Γ.set i (.box n none d))
    | .b j => stm (fzV Γ (.b j)) fun d Γ1 => .nx (Γ1.set i (.val d))
  else .stuck
def setM (i : Nat) (m : Gam → R Val) : Gam → RS := fun Γ => stm (m Γ) (setV i)
theorem StR.setn {M : Pm} {Γ : Gam} {σ : L2.St} {H0 F H : Hp} {own : Own} {i : Nat} {v : V} {x : Slot} {o : Ow} (s : StR M Γ σ F H own) (hi : i < Γ.length) (n : New H0 F H own o) (h : SlotR M F H o (some (some v)) x) :
    StR M (Γ.set i x) (σ.set i (some v)) F H (putO own i o) := s.put hi h (fun a ha => (n a ha).1) (fun a ha => (n a ha).2.1) fun a ha j _ hj => (n a ha).2.2.1 j hj
theorem step_setn {H0 F0 F H : Hp} {own0 own : Own} {i : Nat} {o : Ow} (st : Step F0 H0 own0 F H own) (n : New H0 F H own o) : Step F0 H0 own0 F H (putO own i o) :=
  ⟨st.ff, st.hh, st.nf, fun j a h => by
    by_cases e : j = i
    · subst e; rw [putO_same] at h; exact .inr (n a h).2.2.2
    · rw [putO_ne e] at h; exact st.no j a h, st.al⟩
theorem set_ok {D : Ends} {σ : L2.St} {F0 H0 F H : Hp} {own0 own : Own} {Γ : Gam} {i : Nat} {x : V} {a : Val} (s : StR M Γ σ F H own) (st : Step F0 H0 own0 F H own) (r : ValR M σ H0 F H own x a) (p : PostS M E F0 H0 own0 D (setV i a Γ)) : D.nx (σ.set i (some x)) H := by
  unfold setV at p
  split at p
  · rename_i hi
    cases a with
    | f d => exact p _ F H _ (s.setv hi r).1 (st.trans (s.setv hi r).2)
    | n f =>
      obtain ⟨o, h1, h2⟩ := r
      exact p _ F H _ (s.setn hi h2 ⟨x, rfl, h1⟩) (step_setn st h2)
    | nc c f =>
      obtain ⟨a, o, rfl, h1, h2⟩ := r
      exact p _ F H _ (s.setn hi h2 ⟨a, rfl, by simp, h1⟩) (step_setn st h2)
    | nb c f =>
      obtain ⟨a, o, rfl, h1, h2⟩ := r
      exact p _ F H _ (s.setn hi h2 ⟨a, rfl, by simp, h1⟩) (step_setn st h2)
    | b j =>
      simp only at p
      cases e : fzV Γ (.b j) with
      | stuck => rw [e] at p; exact p.elim
      | err y Γ2 =>
        simp only [fzV] at e
        split at e
        · split at e <;> cases e
        · cases e
      | ok d Γ2 =>
        rw [e] at p
        obtain ⟨F', own', s2, st2, _, r2⟩ := val_frz s st r e
        have hl : i < Γ2.length := by rw [s2.len, ← s.len]; exact hi
        exact p _ F' H _ (s2.setv hl r2).1 (st2.trans (s2.setv hl r2).2)
  · exact p.elim
theorem s_set {i : Nat} {x : Str} {pos' : Pos} (hN : X.N.Nodup) (hi : X.N[i]? = some x) (hx : Loc X.env.scope x) (he : PE X e (tE M E me)) (hs : swapsWith e (some (.Name x pos')) pos.line X.env = pure false := by rfl) (hf : X.fn x = true ∨ X.env.scope.names.lookup x = some .local := by first | exact .inl rfl | exact .inr rfl | assumption) :
    PS X (.Assign [.Name x pos'] e pos) (tS M E (setM i me)) := PS_weak (ps_set hN hi hx he hs hf) fun D σ H ⟨Γ, F, own, s, p⟩ =>
  ⟨Γ, F, own, s, post_stm p fun F1 H1 own1 Γ1 x a _ s1 st1 r p1 => set_ok s1 st1 r p1⟩
/-- a, b = x, y -/
def parM (i j : Nat) (ms : Gam → R (List D)) : Gam → RS := fun Γ => stm (ms Γ) fun ds Γ1 => match ds with
  | [d, d'] => if i < Γ1.length ∧ j < Γ1.length then .nx ((Γ1.set i (.val d)).set j (.val d')) else .stuck
  | _ => .stuck
theorem s_par {i j : Nat} {x y : Str} {ms : Gam → R (List D)} {px py pt : Pos} {kt k2 pt2} (hc : X.calm = true) (hN : X.N.Nodup) (hi : X.N[i]? = some x) (hj : X.N[j]? = some y) (hij : i ≠ j)
    (hx : X.env.scope.names.lookup x = some .local) (hy : X.env.scope.names.lookup y = some .local) (ha : PA X [a, b] (tFs M E ms))
    (hw : swappedStores [.Tuple [.Name x px, .Name y py] kt pt] (.Tuple [a, b] k2 pt2) X.env = pure (some [x, y]))
    (hs : swapsWithSole [.Tuple [.Name x px, .Name y py] kt pt] (.Tuple [a, b] k2 pt2) pos.line X.env = pure false := by rfl) :
    PS X (.Assign [.Tuple [.Name x px, .Name y py] kt pt] (.Tuple [a, b] k2 pt2) pos) (tS M E (parM i j ms)) := PS_weak (ps_par hc hN hi hj hij hx hy ha hw hs) fun D σ H ⟨Γ, F, own, s, p⟩ =>
  ⟨Γ, F, own, s, post_stm p fun F1 H1 own1 Γ1 xs ds _ s1 st1 r p1 => by
    split at p1
    · split at p1
      · rename_i hl
        cases r with
        | cons r1 r =>
          cases r with
          | cons r2 r =>
            cases r
            have q1 := s1.setv hl.1 r1
            have q2 := q1.1.setv (i := j) (by simp; exact hl.2) r2
            exact ⟨_, _, rfl, p1 _ F1 H1 _ q2.1 ((st1.trans q1.2).trans q2.2)⟩
      · exact p1.elim
    · exact p1.elim⟩
end
end DL
end

section
set_option Elab.async false
set_option linter.all false
set_option maxRecDepth 100000
set_option maxHeartbeats 1000000
/-! DL8: what is walked; for, while; comprehensions. -/
namespace DL
open PySem PySem.Spec PyProof.Rows L2

/-- the items; the slot that a walked list of one's own stands in, with what it must hold -/
structure Src where
  items : List D
  br : Option (Nat × List D)
def Src.ok (s : Src) (Γ : Gam) : Prop := ∀ k ds, s.br = some (k, ds) → Γ[k]? = some (.one (.ol ds))
structure ItD (M : Pm) (J : It) (σ0 : L2.St) (F0 : Hp) (s : Src) : Prop where
  go : ∀ i Γ σ F H own, i < s.items.length → StR M Γ σ F H own → Ex F0 F → s.ok Γ → (∀ k ds, s.br = some (k, ds) → σ[k]? = σ0[k]?) → J.go i H
  stop : ∀ i Γ σ F H own, i = s.items.length → StR M Γ σ F H own → Ex F0 F → s.ok Γ → (∀ k ds, s.br = some (k, ds) → σ[k]? = σ0[k]?) → J.stop i H
  yld : ∀ i Γ σ F H own x H', i < s.items.length → StR M Γ σ F H own → Ex F0 F → s.ok Γ → (∀ k ds, s.br = some (k, ds) → σ[k]? = σ0[k]?) → J.yld i H x H' →
    ∃ F' d, Grow F H F' H' ∧ s.items[i]? = some d ∧ Rep M.cls F' x d
def PostI (M : Pm) (E : XK) (σ : L2.St) (F H : Hp) (own : Own) (R' : It → Hp → Prop) : R Src → Prop
  | .ok s Γ' => ∀ F' H' own' J, StR M Γ' σ F' H' own' → Step F H own F' H' own' → ItD M J σ F' s → s.ok Γ' → R' J H'
  | .err e Γ' => ErrP M E σ F H own e Γ'
  | .stuck => False
def tI (M : Pm) (E : XK) (m : Gam → R Src) : TI := fun σ H R' => ∃ Γ F own, StR M Γ σ F H own ∧ PostI M E σ F H own R' (m Γ)
/-! ### the sources -/
/-- the items of a value that is a list or a tuple -/
def srcF (Γ : Gam) (v : Val) : R Src := match v with
  | .f (.list ds) => .ok ⟨ds, none⟩ Γ
  | .f (.tuple ds) => .ok ⟨ds, none⟩ Γ
  | .b i => match Γ[i]? with
    | some (.one (.ol ds)) => .ok ⟨ds, some (i, ds)⟩ Γ
    | some (.vw ds) => .ok ⟨ds, none⟩ Γ
    | _ => .stuck
  | _ => .stuck
def srcM (m : Gam → R Val) : Gam → R Src := fun Γ => (rd m Γ).bind fun v Γ1 => srcF Γ1 v
section
variable {M : Pm} {Γ : Gam} {σ : L2.St} {F H : Hp} {own : Own}
theorem itd_list {a : Addr} {vs : List V} {ds : List D} (h : ∀ F', Ex F F' → ∀ Γ' σ' H' own', StR M Γ' σ' F' H' own' → SqL M.K H' a vs) (hi : ∀ ys H', SqL M.K H' a vs → SqL M.K H' a ys → ys = vs) (r : RepAll M.cls F vs ds) : ItD M (Itl M.K a) σ F ⟨ds, none⟩ where
  go := fun i Γ σ F' H' own' hi' s e _ _ => by
    obtain ⟨v, hv, _⟩ := r.at i (ds[i]'hi') (List.getElem?_eq_getElem _)
    exact ⟨vs, v, h F' e _ _ _ _ s, hv⟩
  stop := fun i Γ σ F' H' own' hi' s e _ _ => ⟨vs, h F' e _ _ _ _ s, by rw [r.length]; exact Nat.le_of_eq hi'.symm⟩
  yld := fun i Γ σ F' H' own' x H'' hi' s e _ _ y => by
    obtain ⟨rfl, hy⟩ := y
    obtain ⟨d, hd, rd⟩ := r.at' i x (hy vs (h F' e _ _ _ _ s))
    exact ⟨F', d, .refl s.fh, hd, rd.mono e⟩
theorem itd_tup {a : Addr} {vs : List V} {ds : List D} (h : ∀ F', Ex F F' → ∀ Γ' σ' H' own', StR M Γ' σ' F' H' own' → SqT M.K H' a vs) (r : RepAll M.cls F vs ds) : ItD M (Itt M.K a) σ F ⟨ds, none⟩ where
  go := fun i Γ σ F' H' own' hi' s e _ _ => by
    obtain ⟨v, hv, _⟩ := r.at i (ds[i]'hi') (List.getElem?_eq_getElem _)
    exact ⟨vs, v, h F' e _ _ _ _ s, hv⟩
  stop := fun i Γ σ F' H' own' hi' s e _ _ => ⟨vs, h F' e _ _ _ _ s, by rw [r.length]; exact Nat.le_of_eq hi'.symm⟩
  yld := fun i Γ σ F' H' own' x H'' hi' s e _ _ y => by
    obtain ⟨rfl, hy⟩ := y
    obtain ⟨d, hd, rd⟩ := r.at' i x (hy vs (h F' e _ _ _ _ s))
    exact ⟨F', d, .refl s.fh, hd, rd.mono e⟩
theorem itd_own {a : Addr} {k : Nat} {ds : List D} (hσ : σ[k]? = some (some (.ref a))) : ItD M (Itl M.K a) σ F ⟨ds, some (k, ds)⟩ where
  go := fun i Γ σ' F' H' own' hi' s e ok hs => by
    obtain ⟨v, h1, l, vs, h2, _, h3, h4⟩ := s.slot k _ (ok k ds rfl)
    rw [hs k ds rfl, hσ] at h1
    cases h1
    cases h2
    obtain ⟨v, hv, _⟩ := h4.at i (ds[i]'hi') (List.getElem?_eq_getElem _)
    exact ⟨vs, v, .of h3, hv⟩
  stop := fun i Γ σ' F' H' own' hi' s e ok hs => by
    obtain ⟨v, h1, l, vs, h2, _, h3, h4⟩ := s.slot k _ (ok k ds rfl)
    rw [hs k ds rfl, hσ] at h1
    cases h1
    cases h2
    exact ⟨vs, .of h3, by rw [h4.length]; exact Nat.le_of_eq hi'.symm⟩
  yld := fun i Γ σ' F' H' own' x H'' hi' s e ok hs y => by
    obtain ⟨rfl, hy⟩ := y
    obtain ⟨v, h1, l, vs, h2, _, h3, h4⟩ := s.slot k _ (ok k ds rfl)
    rw [hs k ds rfl, hσ] at h1
    cases h1
    cases h2
    obtain ⟨d, hd, rd⟩ := h4.at' i x (hy vs (.of h3))
    exact ⟨F', d, .refl s.fh, hd, rd⟩
end
/-! ### a list, a tuple, a text: known only at the run -/
def iSeq (K : PySem.W.Frag) (tl : TE) : TI := fun σ H R => tl σ H fun x H1 => (∃ a, x = .ref a ∧ ((∃ xs, SqL K H1 a xs) ∧ R (Itl K a) H1 ∨ (∃ xs, SqT K H1 a xs) ∧ R (Itt K a) H1)) ∨ ∃ z, x = .str z ∧ R (Its z) H1
theorem pi_seq {X : Cx} {tg l : Expr} {tl : TE} (hl : PE X l tl) : PI X tg l (iSeq X.K tl) := by
  refine ⟨fun pins s σ H R I h => ?_⟩
  refine thn (hl.run pins s σ H (fun x H1 => (∃ a, x = .ref a ∧ ((∃ xs, SqL X.K H1 a xs) ∧ R (Itl X.K a) H1 ∨ (∃ xs, SqT X.K H1 a xs) ∧ R (Itt X.K a) H1)) ∨ ∃ z, x = .str z ∧ R (Its z) H1) I h) fun v s1 ⟨x, H1, I1, rx, q⟩ => ?_
  rcases q with ⟨a, ex, ⟨⟨xs, hq⟩, q⟩ | ⟨⟨xs, hq⟩, q⟩⟩ | ⟨z, ex, q⟩
  · subst ex
    cases rx
    obtain ⟨its, rv, p, hz⟩ := I1.list hq
    refine wpAny_pyIter_list p.isList ?_
    refine ⟨s1.heap.objs.size, [s1.heap.objs.size], _, _, H1, rfl, I1.kept (t' := s1.toks) fun b o e => Heap.get?_push_of_some _ e, turn_list a _, ⟨_, Heap.get?_push_size _ rfl, rfl, rfl⟩, fun b hb => ?_, q⟩
    have e : b = s1.heap.objs.size := by simpa using hb
    subst e
    exact I1.fpOk (Nat.le_refl _) (I1.hok.fresh (Nat.le_refl _))
  · subst ex
    cases rx
    obtain ⟨its, rv, p, hz⟩ := I1.tuple hq
    refine wpAny_pyIter_tuple (show s1.heap.IsTuple a its.toArray from p) ?_
    refine ⟨s1.heap.objs.size, [s1.heap.objs.size], _, _, H1, rfl, I1.kept (t' := s1.toks) fun b o e => Heap.get?_push_of_some _ e, turn_tuple a _, ⟨_, Heap.get?_push_size _ rfl, rfl, rfl⟩, fun b hb => ?_, q⟩
    have e : b = s1.heap.objs.size := by simpa using hb
    subst e
    exact I1.fpOk (Nat.le_refl _) (I1.hok.fresh (Nat.le_refl _))
  · subst ex
    obtain ⟨t, rfl⟩ := rx
    cases ha : z.cps.all (· < 128)
    · exact wpAny_pyIter_wide ha (pi_one (tk := s1.toks) I1 _ (turn_str _ z t "str_iterator" (.inr rfl)) ⟨_, Heap.get?_push_size _ rfl, rfl, rfl⟩ q)
    · exact wpAny_pyIter_ascii ha (pi_one (tk := s1.toks) I1 _ (turn_str _ z t "str_ascii_iterator" (.inl rfl)) ⟨_, Heap.get?_push_size _ rfl, rfl, rfl⟩ q)
/-- the signs of a text -/
def signsD (z : Str) : List D := z.cps.toList.map fun c => .str ⟨#[c]⟩
def srcF' (Γ : Gam) (v : Val) : R Src := match v with
  | .f (.str z) => .ok ⟨signsD z, none⟩ Γ
  | v => srcF Γ v
def srcM' (m : Gam → R Val) : Gam → R Src := fun Γ => (rd m Γ).bind fun v Γ1 => srcF' Γ1 v
theorem src_ok {M : Pm} {Γ Γ' : Gam} {σ : L2.St} {F H : Hp} {own : Own} {x : V} {a : Val} {s : Src} (st : StR M Γ σ F H own) (r : ValRd M σ F x a) (e : srcF Γ a = .ok s Γ') : Γ' = Γ ∧ s.ok Γ ∧
    ∃ p, x = .ref p ∧ (((∃ xs, SqL M.K H p xs ∧ RepAll M.cls F xs (match s.br with | some (_, ds) => ds | none => s.items)) ∧ ItD M (Itl M.K p) σ F s) ∨ ((∃ xs, Rd F p (.tup xs) ∧ SqT M.K H p xs ∧ RepAll M.cls F xs s.items) ∧ s.br = none ∧ ItD M (Itt M.K p) σ F s)) := by
  unfold srcF at e
  split at e
  · cases e
    obtain ⟨p, vs, rfl, h1, h2⟩ := Rep.invL r
    have hL : ∀ F', Ex F F' → ∀ Γ' σ' H' own', StR M Γ' σ' F' H' own' → SqL M.K H' p vs := fun F' e _ _ H' _ s => .of (s.fh _ _ (e _ _ h1))
    refine ⟨rfl, fun _ _ h => by simp at h, p, rfl, .inl ⟨⟨vs, .of (st.fh _ _ h1), h2⟩, ?_⟩⟩
    exact {
      go := fun i Γ σ F' H' own' hi' s e _ _ => by
        obtain ⟨v, hv, _⟩ := h2.at i (_) (List.getElem?_eq_getElem hi')
        exact ⟨vs, v, hL F' e _ _ _ _ s, hv⟩
      stop := fun i Γ σ F' H' own' hi' s e _ _ => ⟨vs, hL F' e _ _ _ _ s, by rw [h2.length]; exact Nat.le_of_eq hi'.symm⟩
      yld := fun i Γ σ F' H' own' x H'' hi' s e _ _ y => by
        obtain ⟨rfl, hy⟩ := y
        obtain ⟨d, hd, rd⟩ := h2.at' i x (hy vs (hL F' e _ _ _ _ s))
        exact ⟨F', d, .refl s.fh, hd, rd.mono e⟩ }
  · cases e
    obtain ⟨p, vs, rfl, h1, h2⟩ := Rep.invU r
    exact ⟨rfl, fun _ _ h => by simp at h, p, rfl, .inr ⟨⟨vs, h1, .inl (rd_up st.fh h1), h2⟩, rfl, itd_tup (fun F' e _ _ H' _ s => .inl (rd_up s.fh (rd_up e h1))) h2⟩⟩
  · split at e
    · rename_i i ds hd
      cases e
      obtain ⟨v, h1, l, vs, h2, _, h3, h4⟩ := slotAt st r hd
      cases h1
      subst h2
      refine ⟨rfl, fun k ds' h => ?_, l, rfl, .inl ⟨⟨vs, .of h3, h4⟩, itd_own r⟩⟩
      cases h
      exact hd
    · rename_i i ds hd
      cases e
      obtain ⟨_, l, vs, h2, h3, h4⟩ := slotAt st r hd
      cases h2
      have hL : ∀ F', Ex F F' → ∀ Γ' σ' H' own', StR M Γ' σ' F' H' own' → SqL M.K H' l vs := fun F' e _ _ H' _ s => sqL_ex s.fh (sqL_ex e h3)
      refine ⟨rfl, fun _ _ h => by simp at h, l, rfl, .inl ⟨⟨vs, sqL_ex st.fh h3, h4⟩, ?_⟩⟩
      exact {
        go := fun i Γ σ F' H' own' hi' s e _ _ => by
          obtain ⟨v, hv, _⟩ := h4.at i (_) (List.getElem?_eq_getElem hi')
          exact ⟨vs, v, hL F' e _ _ _ _ s, hv⟩
        stop := fun i Γ σ F' H' own' hi' s e _ _ => ⟨vs, hL F' e _ _ _ _ s, by rw [h4.length]; exact Nat.le_of_eq hi'.symm⟩
        yld := fun i Γ σ F' H' own' x H'' hi' s e _ _ y => by
          obtain ⟨rfl, hy⟩ := y
          obtain ⟨d, hd, rd⟩ := h4.at' i x (hy vs (hL F' e _ _ _ _ s))
          exact ⟨F', d, .refl s.fh, hd, rd.mono e⟩ }
    · cases e
  · cases e
theorem itd_str {M : Pm} {σ : L2.St} {F : Hp} (z : Str) : ItD M (Its z) σ F ⟨signsD z, none⟩ where
  go := fun i Γ σ F' H' own' hi' s e _ _ => by
    show i < z.cps.size
    simpa [signsD] using hi'
  stop := fun i Γ σ F' H' own' hi' s e _ _ => by
    show z.cps.size ≤ i
    simp [signsD] at hi'
    omega
  yld := fun i Γ σ F' H' own' x H'' hi' s e _ _ y => by
    obtain ⟨rfl, c, hc, rfl⟩ := y
    refine ⟨F', _, .refl s.fh, ?_, .str _⟩
    simp [signsD, hc]
section
variable {X : Cx} {M : Pm} {E : XK} {tg e e2 a b : Expr} {es : List Expr} {m : Gam → R Val} {ms : Gam → R (List Val)} {p pos tpos : Pos} {elts : List Expr} {kk : Nat}
theorem post_srcb {α β : Type} {rel : Rel β α} {r : R α} {k : α → Gam → R Src} {σ : L2.St} {F0 H0 : Hp} {own0 : Own} {R' : It → Hp → Prop} {Q' : β → Hp → Prop}
    (p : PostI M E σ F0 H0 own0 R' (r.bind k))
    (hk : ∀ F1 H1 own1 Γ1 x a, StR M Γ1 σ F1 H1 own1 → Step F0 H0 own0 F1 H1 own1 → rel σ H0 F1 H1 own1 x a → PostI M E σ F0 H0 own0 R' (k a Γ1) → Q' x H1) : PostG rel M E σ F0 H0 own0 Q' r := by
  cases e : r with
  | ok a Γ1 =>
    simp only [e, R.bind_ok] at p
    exact fun x F1 H1 own1 st1 s1 v => hk F1 H1 own1 Γ1 x a st1 s1 v p
  | err x Γ1 =>
    simp only [e, R.bind_err] at p
    exact p
  | stuck =>
    simp only [e, R.bind_stuck] at p
    exact p
theorem i_seq (hK : X.K = M.K) (h : PE X e (tE M E m)) : PI X tg e (tI M E (srcM' m)) := PI_weak (pi_seq (pe_rd h)) fun σ H R' ⟨Γ, F, own, s, q⟩ => by
  refine ⟨Γ, F, own, s, post_srcb q fun F1 H1 own1 Γ1 x a st1 s1 r1 p1 => ?_⟩
  rw [hK]
  unfold srcF' at p1
  split at p1
  · cases r1
    exact .inr ⟨_, rfl, p1 F1 H1 own1 _ st1 s1 (itd_str _) (fun _ _ h => by simp at h)⟩
  · cases es : srcF Γ1 a with
    | stuck => rw [es] at p1; exact p1.elim
    | err y Γ2 =>
      unfold srcF at es
      split at es
      · cases es
      · cases es
      · split at es <;> cases es
      · cases es
    | ok sr Γ2 =>
      rw [es] at p1
      obtain ⟨rfl, ok, q, rfl, ⟨⟨xs, h1, _⟩, h2⟩ | ⟨⟨xs, _, h1, _⟩, _, h2⟩⟩ := src_ok st1 r1 es
      · exact .inl ⟨q, rfl, .inl ⟨⟨xs, h1⟩, p1 F1 H1 own1 _ st1 s1 h2 ok⟩⟩
      · exact .inl ⟨q, rfl, .inr ⟨⟨xs, h1⟩, p1 F1 H1 own1 _ st1 s1 h2 ok⟩⟩
/-! ### range -/
def rangeD (lo : Int) (n : Nat) : List D := (List.range n).map fun i => .int (lo + (i : Nat))
theorem itd_range {σ : L2.St} {F : Hp} (lo : Int) (n : Nat) : ItD M (Itr lo n) σ F ⟨rangeD lo n, none⟩ where
  go := fun i Γ σ F' H' own' hi' s e _ _ => by
    show i < n
    simpa [rangeD] using hi'
  stop := fun i Γ σ F' H' own' hi' s e _ _ => by
    show n ≤ i
    simp [rangeD] at hi'
    omega
  yld := fun i Γ σ F' H' own' x H'' hi' s e _ _ y => by
    obtain ⟨rfl, rfl⟩ := y
    refine ⟨F', _, .refl s.fh, ?_, .int _⟩
    have : i < n := by simpa [rangeD] using hi'
    simp [rangeD, this]
def rg1M (ms : Gam → R (List Val)) : Gam → R Src := fun Γ => (ms Γ).bind fun vs Γ1 => match vs with
  | [.f (.int j)] => if -(2 ^ 62) ≤ j ∧ j < 2 ^ 62 then .ok ⟨rangeD 0 j.toNat, none⟩ Γ1 else .stuck
  | _ => .stuck
def rg2M (ms : Gam → R (List Val)) : Gam → R Src := fun Γ => (ms Γ).bind fun vs Γ1 => match vs with
  | [.f (.int i), .f (.int j)] => if -(2 ^ 62) ≤ i ∧ i < 2 ^ 62 ∧ -(2 ^ 62) ≤ j ∧ j < 2 ^ 62 then .ok ⟨rangeD i (j - i).toNat, none⟩ Γ1 else .stuck
  | _ => .stuck
theorem i_range1 (hg : Gl X "range") (hm : X.mg "range" = none) (ha : PA X [a] (tA M E ms)) (hs : starEach [a] X.env = [(false, eval a X.env)] := by rfl) : PI X tg (.Call (.Name "range" p) [a] [] pos) (tI M E (rg1M ms)) := PI_weak (pi_range1 hg hm ha hs) fun σ H R' ⟨Γ, F, own, s, q⟩ =>
  ⟨Γ, F, own, s, post_srcb q fun F1 H1 own1 Γ1 x a st1 s1 r1 p1 => by
    split at p1
    · split at p1
      · rename_i hj
        cases r1 with
        | cons r r1 =>
          cases r1
          cases r
          exact ⟨_, rfl, hj.1, hj.2, p1 F1 H1 own1 _ st1 s1 (itd_range _ _) (fun _ _ h => by simp at h)⟩
      · exact p1.elim
    · exact p1.elim⟩
theorem i_range2 (hg : Gl X "range") (hm : X.mg "range" = none) (ha : PA X [a, b] (tA M E ms)) (hs : starEach [a, b] X.env = [(false, eval a X.env), (false, eval b X.env)] := by rfl) (hs2 : starEach [b] X.env = [(false, eval b X.env)] := by rfl) : PI X tg (.Call (.Name "range" p) [a, b] [] pos) (tI M E (rg2M ms)) := PI_weak (pi_range2 hg hm ha hs hs2) fun σ H R' ⟨Γ, F, own, s, q⟩ =>
  ⟨Γ, F, own, s, post_srcb q fun F1 H1 own1 Γ1 x a st1 s1 r1 p1 => by
    split at p1
    · split at p1
      · rename_i hj
        cases r1 with
        | cons r r1 =>
          cases r1 with
          | cons r' r1 =>
            cases r1
            cases r
            cases r'
            exact ⟨_, _, rfl, hj, p1 F1 H1 own1 _ st1 s1 (itd_range _ _) (fun _ _ h => by simp at h)⟩
      · exact p1.elim
    · exact p1.elim⟩
end
end DL
end

section
set_option Elab.async false
set_option linter.all false
set_option maxRecDepth 100000
set_option maxHeartbeats 1000000
/-! DL9: enumerate and zip of lists and of tuples. -/
namespace DL
open PySem PySem.Spec PyProof.Rows L2

/-! ### enumerate(tuple) -/
set_option maxHeartbeats 4000000 in
theorem meets_enumerate_newU (l : Addr) (items : Array Value) :
    Meets (Builtin.«enumerate.__new__» ⟨[.type "enumerate", .ref l], []⟩) (fun _ R s => s.heap.IsTuple l items ∧
      R (.ok (.ret (.ref (s.heap.push { cls := .type "tuple_iterator", data := .fields #[.ref l, .int 0 0] }).objs.size)))
        { s with heap := (s.heap.push { cls := .type "tuple_iterator", data := .fields #[.ref l, .int 0 0] }).push { cls := .type "enumerate", data := .fields #[.none, .bool false, .ref s.heap.objs.size, rawInt 0, .none, .none] } }) :=
  .of_wp fun prog w A R s h => by
    obtain ⟨hp, g, d, tk, os⟩ := s
    obtain ⟨hl, h⟩ := h
    have hsub := sub_enumerate
    have q1 : ∀ {A' : Around} {E : Value → Shared → Prop} {Q : Value → Shared → Prop}, Q (.ref hp.objs.size) ⟨hp.push { cls := .type "tuple_iterator", data := .fields #[.ref l, .int 0 0] }, g, d, tk, os⟩ → wpAny (model prog w) A' (pyIter (.ref l)) Q E ⟨hp, g, d, tk, os⟩ :=
      fun q => wpAny_pyIter_tuple (s := ⟨hp, g, d, tk, os⟩) hl q
    wp_walk using q1
    refine wpAny_stack_any fun st => wpAny_pure ?_
    split
    · rename_i c _ _ _ _ _
      cases (c == Value.type "enumerate")
      · wp_walk using q1
        exact ⟨_, rfl, h⟩
      · wp_walk using q1
        exact ⟨_, rfl, h⟩
    · wp_walk using q1
      exact ⟨_, rfl, h⟩
theorem call_enumerate_tuple {prog : Program} {w : World} {A : Around} {E : Value → Shared → Prop} {s : Shared} {l : Addr} {items : Array Value} {Q : Value → Shared → Prop} (hL : s.heap.IsTuple l items)
    (h : ∀ h', IsEnum h' (s.heap.objs.size + 1) s.heap.objs.size 0 .none → h'.IsTupleIter s.heap.objs.size l 0 → h'.objs.size = s.heap.objs.size + 2 →
      (∀ b o, s.heap.get? b = some o → h'.get? b = some o) → Q (.ref (s.heap.objs.size + 1)) { s with heap := h' }) :
    wpAny (model prog w) A (call (.type "enumerate") [.ref l]) Q E s := by
  refine callType_new F.called_enumerate (by decide) (F.typeCall_enumerate_1 _) (F.newCall_enumerate_1 _) (fun obj => F.args_object_init_2 obj _) F.entry_enumerate_new
    (meets_enumerate_newU l items) ⟨hL, ?_⟩
  have hz : (s.heap.push { cls := .type "tuple_iterator", data := .fields #[.ref l, .int 0 0] }).objs.size = s.heap.objs.size + 1 := Heap.size_push ..
  show _ ∧ _
  rw [hz]
  have he : IsEnum ((s.heap.push { cls := .type "tuple_iterator", data := .fields #[.ref l, .int 0 0] }).push
      { cls := .type "enumerate", data := .fields #[.none, .bool false, .ref s.heap.objs.size, rawInt 0, .none, .none] }) (s.heap.objs.size + 1) s.heap.objs.size 0 .none := by
    have := Heap.get?_push_size (s.heap.push { cls := .type "tuple_iterator", data := .fields #[.ref l, .int 0 0] })
      (o := { cls := .type "enumerate", data := .fields #[.none, .bool false, .ref s.heap.objs.size, rawInt 0, .none, .none] }) rfl
    rw [hz] at this; exact this
  refine ⟨⟨_, he, rfl⟩, h _ he ⟨_, Heap.get?_push_of_some _ (Heap.get?_push_size _ rfl), rfl, rfl⟩ (by rw [Heap.size_push, hz]) fun b o x => Heap.get?_push_of_some _ (Heap.get?_push_of_some _ x)⟩
def IteT (K : PySem.W.Frag) (a : Addr) : It :=
  ⟨fun i H => ∃ (xs : List V) (x : V), SqT K H a xs ∧ xs[i]? = some x, fun i H v H' => ∃ T x, v = .ref T ∧ H T = none ∧ H' = upd H T (.tup [.int (i : Nat), x]) ∧ ∀ xs, SqT K H a xs → xs[i]? = some x, fun i H => ∃ xs : List V, SqT K H a xs ∧ i = xs.length⟩
theorem tup_ne {h : Heap} {a it : Addr} {items : Array Value} {i : Nat} (h1 : h.IsTuple a items) (h2 : h.IsTupleIter it a i) : a ≠ it := by
  rintro rfl
  obtain ⟨o, e1, c1, _⟩ := h1
  obtain ⟨o', e2, c2, _⟩ := h2
  rw [e1] at e2
  cases e2
  rw [c1] at c2
  injection c2 with c2
  exact absurd c2 (by decide)
theorem turn_enumT {P : Program} {w : World} {K : PySem.W.Frag} {elts : List Expr} {kk : Nat} {tpos : Pos} (a e it : Addr) :
    Turn P w K (.Tuple elts kk tpos) (IteT K a) [e, it] e (fun i h => (∃ old, IsEnum h e it ((i : Nat) : Int) old) ∧ h.IsTupleIter it a i ∧ e ≠ it ∧ e ≠ a) where
  mem := by simp
  obj := fun i h st b hb => by
    obtain ⟨⟨old, he⟩, ⟨o, ho, hc, hd⟩, _⟩ := st
    have e' : b = e ∨ b = it := by simpa using hb
    rcases e' with z | z
    · rw [z]; exact ⟨_, he, fun v q => nomatch q⟩
    · rw [z]; exact ⟨o, ho, fun v q => by rw [hd] at q; cases q⟩
  keep := fun i h h' st k => let ⟨⟨old, he⟩, hi, hne⟩ := st; ⟨⟨old, k e (by simp) _ he⟩, hi.at fun o q => k it (by simp) o q, hne⟩
  item := by
    intro X hP hw hK hc i pins s σ H E I hf st hg
    subst hP hw hK
    obtain ⟨⟨old, he⟩, hit, hne, hne2⟩ := st
    obtain ⟨xs, x, hq, hx⟩ := hg
    obtain ⟨its, rv, p, hz⟩ := I.tuple hq
    obtain ⟨u, hu, ru⟩ := rv.get hx
    have hel : e < s.heap.objs.size := Heap.lt_size he
    have hil : it < s.heap.objs.size := by obtain ⟨_, q, _⟩ := hit; exact Heap.lt_size q
    have hat : a ≠ it := tup_ne (show s.heap.IsTuple a its.toArray from p) hit
    have hi : i < its.toArray.size := by
      simp
      exact (List.getElem?_eq_some_iff.mp hu).1
    refine wpAny_pyNext_enum_itemD (Draws.tuple (A := X.A.in1) (I.ok.hd hc) it a hat its.toArray) he ⟨hit, p⟩ hi hne (by simp [hne, hne2]) fun x' h' tk hx' ho st' hT hsz hk => ?_
    obtain rfl : x' = u := by
      have : its.toArray[i]? = some x' := hx'
      rw [show its.toArray[i]? = its[i]? by simp, hu] at this
      exact (Option.some.inj this).symm
    refine ⟨_, rfl, wpAny_letOwnedTupleGo_enum (s := { s with heap := h', toks := tk + 1 }) ho fun h'' he' sb => ?_⟩
    have hT2 : h''.get? s.heap.objs.size = some { cls := .type "tuple", data := .seq #[.int i tk, x'] } := (sb.2 _ (Nat.ne_of_gt hel)).trans hT
    have new : ObjOk X.prog X.w (upd H s.heap.objs.size (.tup [.int (i : Nat), x])) h'' s.heap.objs.size (.tup [.int (i : Nat), x]) :=
      ⟨by show 2 ≤ sizeLine; decide, [.int i tk, x'], .cons ⟨_, rfl⟩ (.cons ru .nil), ⟨_, hT2, rfl, _, rfl⟩⟩
    have I1 : Inv X pins σ (upd H s.heap.objs.size (.tup [.int (i : Nat), x])) { s with heap := h'', toks := tk + 1 } :=
      I.turnedNew (ch := [e, it]) (fun b ob hb q => (sb.2 b (fun z => hb (by simp [z]))).trans (hk b ob (fun z => hb (by simp [z])) (fun z => hb (by simp [z])) q)) hf (Nat.le_refl _) new
    refine ⟨.ref s.heap.objs.size, _, I1, rfl, ⟨_, x, rfl, I.hok.fresh (Nat.le_refl _), rfl, fun ys hy => by rw [I.tuple_inj hy hq]; exact hx⟩, ⟨⟨x', ?_⟩, st'.1.at fun o q => (sb.2 it (Ne.symm hne)).trans q, hne, hne2⟩, fun b hb => ?_⟩
    · have e1 : ((i + 1 : Nat) : Int) = (i : Int) + 1 := by omega
      rw [e1]; exact he'
    · have hb' : b < s.heap.objs.size := by
        have e' : b = e ∨ b = it := by simpa using hb
        rcases e' with z | z
        · rw [z]; exact hel
        · rw [z]; exact hil
      rw [upd_ne (Nat.ne_of_lt hb')]
      exact (hf b hb).1
  done := by
    intro X hP hw hK hc i pins s σ H E I hf st hg
    subst hP hw hK
    obtain ⟨⟨old, he⟩, hit, hne, hne2⟩ := st
    obtain ⟨xs, hq, hx⟩ := hg
    obtain ⟨its, rv, p, hz⟩ := I.tuple hq
    obtain ⟨f0, f1, f2, f3, f4, f5⟩ := hf it (by simp)
    have hl := rv.length
    have hat : a ≠ it := tup_ne (show s.heap.IsTuple a its.toArray from p) hit
    have hn : its.toArray.size = i := by
      rw [List.size_toArray, ← hl]
      exact hx.symm
    refine wpAny_pyNext_enum_endD (Draws.tuple (A := X.A.in1) (I.ok.hd hc) it a hat its.toArray) he (by rw [hn]; exact ⟨hit, p⟩) fun h' eb => ⟨rfl, I.turned (t' := s.toks) (fun b o hb q => eb b o hb q) f0 f1 f3 f4 f5⟩
  self := fun A i s Q E st h => let ⟨⟨_, he⟩, _⟩ := st; wpAny_pyIter_enum he h
/-- enumerate of a list or of a tuple -/
def iEnumS (K : PySem.W.Frag) (ta : TA) : TI := fun σ H R => ta σ H fun vs H1 => ∃ a, vs = [.ref a] ∧ ((∃ xs, SqL K H1 a xs) ∧ R (Ite K a) H1 ∨ (∃ xs, SqT K H1 a xs) ∧ R (IteT K a) H1)
theorem pi_enumS {X : Cx} {e : Expr} {ta : TA} {p pos tpos : Pos} {elts : List Expr} {kk : Nat} (hg : Gl X "enumerate") (hm : X.mg "enumerate" = none) (ha : PA X [e] ta) (hs : starEach [e] X.env = [(false, eval e X.env)] := by rfl) :
    PI X (.Tuple elts kk tpos) (.Call (.Name "enumerate" p) [e] [] pos) (iEnumS X.K ta) := by
  refine ⟨fun pins s σ H R I h => ?_⟩
  refine Call_ (ld_blt I hg hm boot_enumerate (PyProof.Rows.callWith_type1 (thn (ha.run pos pins s σ H (fun vs H1 => ∃ a, vs = [.ref a] ∧ ((∃ xs, SqL X.K H1 a xs) ∧ R (Ite X.K a) H1 ∨ (∃ xs, SqT X.K H1 a xs) ∧ R (IteT X.K a) H1)) I h) fun us s1 ⟨vs, H1, I1, r1, q1⟩ => ?_) hs rfl))
  obtain ⟨a, ex, q1⟩ := q1
  subst ex
  cases r1 with
  | cons r rr =>
    cases rr
    cases r
    have fr : ∀ b ∈ [s1.heap.objs.size + 1, s1.heap.objs.size], FpOk X pins H1 b := fun b hb => by
      have e' : b = s1.heap.objs.size + 1 ∨ b = s1.heap.objs.size := by simpa using hb
      have hle : s1.heap.objs.size ≤ b := by
        rcases e' with z | z
        · rw [z]; exact Nat.le_add_right _ _
        · rw [z]; exact Nat.le_refl _
      exact I1.fpOk hle (I1.hok.fresh hle)
    rcases q1 with ⟨⟨xs, hq⟩, q⟩ | ⟨⟨xs, hq⟩, q⟩
    · obtain ⟨its, rv, p', hz⟩ := I1.list hq
      refine call_enumerate_list p'.isList fun h' he hit hsz hk => wpAny_pyIter_enum he ?_
      have I2 : Inv X pins σ H1 { s1 with heap := h' } := I1.kept (t' := s1.toks) hk
      exact ⟨s1.heap.objs.size + 1, [s1.heap.objs.size + 1, s1.heap.objs.size], _, _, H1, rfl, I2, turn_enum a (s1.heap.objs.size + 1) s1.heap.objs.size, ⟨⟨.none, he⟩, hit, Nat.succ_ne_self _⟩, fr, q⟩
    · obtain ⟨its, rv, p', hz⟩ := I1.tuple hq
      obtain ⟨o, ho, _⟩ := id p'
      have hlt := Heap.lt_size ho
      refine call_enumerate_tuple (show s1.heap.IsTuple a its.toArray from p') fun h' he hit hsz hk => wpAny_pyIter_enum he ?_
      have I2 : Inv X pins σ H1 { s1 with heap := h' } := I1.kept (t' := s1.toks) hk
      exact ⟨s1.heap.objs.size + 1, [s1.heap.objs.size + 1, s1.heap.objs.size], _, _, H1, rfl, I2, turn_enumT a (s1.heap.objs.size + 1) s1.heap.objs.size, ⟨⟨.none, he⟩, hit, Nat.succ_ne_self _, Nat.ne_of_gt (Nat.lt_succ_of_lt hlt)⟩, fr, q⟩
/-! ### what they give -/
def enumGo (k : Nat) : List D → List D
  | [] => []
  | d :: r => .tuple [.int (k : Int), d] :: enumGo (k + 1) r
theorem enumGo_at : ∀ (ds : List D) (k i : Nat), (enumGo k ds)[i]? = ds[i]?.map fun d => .tuple [.int ((k + i : Nat) : Int), d]
  | [], k, i => by simp [enumGo]
  | d :: r, k, 0 => by simp [enumGo]
  | d :: r, k, i + 1 => by
    simp only [enumGo, List.getElem?_cons_succ]
    rw [enumGo_at r (k + 1) i]
    have : k + 1 + i = k + (i + 1) := by omega
    rw [this]
theorem enumGo_length : ∀ (ds : List D) (k : Nat), (enumGo k ds).length = ds.length
  | [], k => rfl
  | d :: r, k => by simp [enumGo, enumGo_length r]
def enumD (ds : List D) : List D := enumGo 0 ds
def zipD (ds es : List D) : List D := List.zipWith (fun a b => .tuple [a, b]) ds es
theorem rep_pair {M : Pm} {F H : Hp} {T : Addr} {x y : V} {d d' : D} (fh : Ex F H) (hT : H T = none) (h1 : Rep M.cls F x d) (h2 : Rep M.cls F y d') : Grow F H (upd F T (.tup [x, y])) (upd H T (.tup [x, y])) ∧ Rep M.cls (upd F T (.tup [x, y])) (.ref T) (.tuple [d, d']) := by
  have g : Grow F H (upd F T (.tup [x, y])) (upd H T (.tup [x, y])) := .new fh hT
  exact ⟨g, .tup upd_same (.cons (h1.mono g.ff) (.cons (h2.mono g.ff) .nil))⟩
theorem itd_enumL {M : Pm} {σ : L2.St} {F : Hp} {p : Addr} {s : Src} (h : ItD M (Itl M.K p) σ F s) : ItD M (Ite M.K p) σ F ⟨enumD s.items, s.br⟩ where
  go := fun i Γ σ F' H' own' hi' st e ok hs => by
    rw [show (Src.mk (enumD s.items) s.br).items.length = s.items.length from enumGo_length _ _] at hi'
    exact h.go i Γ σ F' H' own' hi' st e ok hs
  stop := fun i Γ σ F' H' own' hi' st e ok hs => by
    rw [show (Src.mk (enumD s.items) s.br).items.length = s.items.length from enumGo_length _ _] at hi'
    exact h.stop i Γ σ F' H' own' hi' st e ok hs
  yld := fun i Γ σ F' H' own' x H'' hi' st e ok hs y => by
    rw [show (Src.mk (enumD s.items) s.br).items.length = s.items.length from enumGo_length _ _] at hi'
    obtain ⟨T, x', rfl, hT, rfl, hx⟩ := y
    obtain ⟨F1, d, g, h1, h2⟩ := h.yld i Γ σ F' H' own' x' H' hi' st e ok hs ⟨rfl, hx⟩
    obtain ⟨g2, r2⟩ := rep_pair (M := M) (T := T) g.fh hT (.int (i : Nat)) h2
    refine ⟨_, _, g.trans g2, ?_, r2⟩
    show (enumGo 0 s.items)[i]? = _
    rw [enumGo_at, h1]
    simp
theorem itd_enumT {M : Pm} {σ : L2.St} {F : Hp} {p : Addr} {xs : List V} {ds : List D} (h0 : Rd F p (.tup xs)) (h2 : RepAll M.cls F xs ds) : ItD M (IteT M.K p) σ F ⟨enumD ds, none⟩ where
  go := fun i Γ σ F' H' own' hi' st e ok hs => by
    rw [show (Src.mk (enumD ds) none).items.length = ds.length from enumGo_length _ _] at hi'
    obtain ⟨v, hv, _⟩ := h2.at i _ (List.getElem?_eq_getElem hi')
    exact ⟨xs, v, .inl (rd_up st.fh (rd_up e h0)), hv⟩
  stop := fun i Γ σ F' H' own' hi' st e ok hs => by
    rw [show (Src.mk (enumD ds) none).items.length = ds.length from enumGo_length _ _] at hi'
    exact ⟨xs, .inl (rd_up st.fh (rd_up e h0)), by rw [h2.length]; exact hi'⟩
  yld := fun i Γ σ F' H' own' x H'' hi' st e ok hs y => by
    obtain ⟨T, x', rfl, hT, rfl, hx⟩ := y
    obtain ⟨d, hd, rd⟩ := h2.at' i x' (hx xs (.inl (rd_up st.fh (rd_up e h0))))
    obtain ⟨g2, r2⟩ := rep_pair (M := M) (T := T) st.fh hT (.int (i : Nat)) (rd.mono e)
    refine ⟨_, _, g2, ?_, r2⟩
    show (enumGo 0 ds)[i]? = _
    rw [enumGo_at, hd]
    simp
def enumF (Γ : Gam) (v : Val) : R Src := (srcF Γ v).bind fun s Γ1 => .ok ⟨enumD s.items, s.br⟩ Γ1
def enumM (ms : Gam → R (List Val)) : Gam → R Src := fun Γ => (ms Γ).bind fun vs Γ1 => match vs with
  | [v] => enumF Γ1 v
  | _ => .stuck
section
variable {X : Cx} {M : Pm} {E : XK} {tg e e2 a b : Expr} {es : List Expr} {m : Gam → R Val} {ms : Gam → R (List Val)} {p pos tpos : Pos} {elts : List Expr} {kk : Nat}
theorem srcF_ns {Γ Γ' : Gam} {v : Val} {x : Exc} (h : srcF Γ v = .err x Γ') : False := by
  unfold srcF at h
  split at h
  · cases h
  · cases h
  · split at h <;> cases h
  · cases h
theorem i_enum (hK : X.K = M.K) (hg : Gl X "enumerate") (hm : X.mg "enumerate" = none) (ha : PA X [e] (tA M E ms)) (hs : starEach [e] X.env = [(false, eval e X.env)] := by rfl) : PI X (.Tuple elts kk tpos) (.Call (.Name "enumerate" p) [e] [] pos) (tI M E (enumM ms)) := PI_weak (pi_enumS hg hm ha hs) fun σ H R' ⟨Γ, F, own, s, q⟩ =>
  ⟨Γ, F, own, s, post_srcb q fun F1 H1 own1 Γ1 x a st1 s1 r1 p1 => by
    rw [hK]
    split at p1
    · rename_i v
      cases r1 with
      | cons r r1 =>
        cases r1
        unfold enumF at p1
        cases es : srcF Γ1 v with
        | stuck => rw [es] at p1; exact p1.elim
        | err y Γ2 => exact (srcF_ns es).elim
        | ok sr Γ2 =>
          rw [es] at p1
          obtain ⟨rfl, ok, q, rfl, ⟨⟨xs, h1, _⟩, h2⟩ | ⟨⟨xs, h0, h1, h3⟩, hbr, h2⟩⟩ := src_ok st1 r es
          · exact ⟨q, rfl, .inl ⟨⟨xs, h1⟩, p1 F1 H1 own1 _ st1 s1 (itd_enumL h2) ok⟩⟩
          · refine ⟨q, rfl, .inr ⟨⟨xs, h1⟩, p1 F1 H1 own1 _ st1 s1 ?_ ok⟩⟩
            rw [hbr]
            exact itd_enumT h0 h3
    · exact p1.elim⟩
/-! ### zip of two lists, of two tuples -/
def viewFL : Val → Option (List D)
  | .f (.list ds) => some ds
  | _ => none
theorem viewFL_some {v : Val} {ds : List D} (h : viewFL v = some ds) : v = .f (.list ds) := by
  unfold viewFL at h
  split at h
  · cases h
    rfl
  · cases h
def zipM (ms : Gam → R (List Val)) : Gam → R Src := fun Γ => (ms Γ).bind fun vs Γ1 => match vs with
  | [v, u] => match viewFL v, viewFL u with
    | some ds, some es => .ok ⟨zipD ds es, none⟩ Γ1
    | _, _ => match viewD Γ1 v, viewD Γ1 u with
      | some (.tuple ds), some (.tuple es) => .ok ⟨zipD ds es, none⟩ Γ1
      | _, _ => .stuck
  | _ => .stuck
theorem zipD_at (ds es : List D) (i : Nat) : (zipD ds es)[i]? = match ds[i]?, es[i]? with
    | some a, some b => some (.tuple [a, b])
    | _, _ => none := by
  unfold zipD
  rw [List.getElem?_zipWith]
  cases ds[i]? <;> cases es[i]? <;> rfl
theorem zipD_length (ds es : List D) : (zipD ds es).length = min ds.length es.length := by
  simp [zipD]
theorem itd_zip {P Q : Hp → Addr → List V → Prop} {J : It} {σ : L2.St} {F : Hp} {a b : Addr} {xs ys : List V} {ds es : List D} (hP : ∀ F' H', Ex F F' → Ex F' H' → P H' a xs) (hQ : ∀ F' H', Ex F F' → Ex F' H' → Q H' b ys) (r1 : RepAll M.cls F xs ds) (r2 : RepAll M.cls F ys es)
    (hg : ∀ i H, (∃ xs ys x y, P H a xs ∧ Q H b ys ∧ xs[i]? = some x ∧ ys[i]? = some y) → J.go i H) (hs : ∀ i H, (∃ xs ys, P H a xs ∧ Q H b ys ∧ (xs.length ≤ i ∨ ys.length ≤ i)) → J.stop i H)
    (hy : ∀ i H v H', J.yld i H v H' → ∃ T x y, v = .ref T ∧ H T = none ∧ H' = upd H T (.tup [x, y]) ∧ (∀ xs, P H a xs → xs[i]? = some x) ∧ ∀ ys, Q H b ys → ys[i]? = some y) : ItD M J σ F ⟨zipD ds es, none⟩ where
  go := fun i Γ σ F' H' own' hi' st e ok hs => by
    rw [show (Src.mk (zipD ds es) none).items.length = _ from zipD_length _ _] at hi'
    obtain ⟨v, hv, _⟩ := r1.at i _ (List.getElem?_eq_getElem (show i < ds.length by omega))
    obtain ⟨w, hw, _⟩ := r2.at i _ (List.getElem?_eq_getElem (show i < es.length by omega))
    exact hg i H' ⟨xs, ys, v, w, hP F' H' e st.fh, hQ F' H' e st.fh, hv, hw⟩
  stop := fun i Γ σ F' H' own' hi' st e ok _ => by
    rw [show (Src.mk (zipD ds es) none).items.length = _ from zipD_length _ _] at hi'
    refine hs i H' ⟨xs, ys, hP F' H' e st.fh, hQ F' H' e st.fh, ?_⟩
    have h1 := r1.length
    have h2 := r2.length
    omega
  yld := fun i Γ σ F' H' own' x H'' hi' st e ok _ y => by
    obtain ⟨T, x', y', rfl, hT, rfl, hx, hx2⟩ := hy i H' x H'' y
    obtain ⟨d, hd, rd⟩ := r1.at' i x' (hx xs (hP F' H' e st.fh))
    obtain ⟨d', hd', rd'⟩ := r2.at' i y' (hx2 ys (hQ F' H' e st.fh))
    obtain ⟨g2, r2⟩ := rep_pair (M := M) (T := T) st.fh hT (rd.mono e) (rd'.mono e)
    refine ⟨_, _, g2, ?_, r2⟩
    show (zipD ds es)[i]? = _
    rw [zipD_at, hd, hd']
theorem i_zip (hK : X.K = M.K) (hg : Gl X "zip") (hm : X.mg "zip" = none) (ha : PA X [e, e2] (tA M E ms)) (hs : starEach [e, e2] X.env = (false, eval e X.env) :: starEach [e2] X.env := by rfl) (hpl : (backTo pos (starEach [e2] X.env)).any (·.1) = false := by rfl) :
    PI X (.Tuple elts kk tpos) (.Call (.Name "zip" p) [e, e2] [] pos) (tI M E (zipM ms)) := PI_weak (RZ.pi_zipA hg hm ha hs hpl) fun σ H R' ⟨Γ, F, own, s, q⟩ =>
  ⟨Γ, F, own, s, post_srcb q fun F1 H1 own1 Γ1 x a st1 s1 r1 p1 => by
    rw [hK]
    split at p1
    · rename_i v u
      cases r1 with
      | cons r r1 =>
        cases r1 with
        | cons r' r1 =>
          cases r1
          split at p1
          · rename_i h1 h2
            rw [viewFL_some h1] at r
            rw [viewFL_some h2] at r'
            obtain ⟨q1, xs, rfl, k1, k2⟩ := Rep.invL r
            obtain ⟨q2, ys, rfl, k3, k4⟩ := Rep.invL r'
            refine ⟨q1, q2, xs, ys, rfl, .inl ⟨.of (st1.fh _ _ k1), .of (st1.fh _ _ k3), p1 F1 H1 own1 _ st1 s1 ?_ (fun _ _ h => by simp at h)⟩⟩
            exact itd_zip (P := SqL M.K) (Q := SqL M.K) (fun F' H' e fh => .of (fh _ _ (e _ _ k1))) (fun F' H' e fh => .of (fh _ _ (e _ _ k3))) k2 k4 (fun i H h => h) (fun i H h => h) (fun i H v H' h => h)
          · split at p1
            · rename_i h1 h2
              obtain ⟨q1, xs, rfl, k0, k1, k2⟩ := view_tup st1 r h1
              obtain ⟨q2, ys, rfl, k3, k5, k4⟩ := view_tup st1 r' h2
              refine ⟨q1, q2, xs, ys, rfl, .inr ⟨k1, k5, p1 F1 H1 own1 _ st1 s1 ?_ (fun _ _ h => by simp at h)⟩⟩
              exact itd_zip (P := SqT M.K) (Q := SqT M.K) (fun F' H' e fh => .inl (rd_up fh (rd_up e k0.2))) (fun F' H' e fh => .inl (rd_up fh (rd_up e k3.2))) k2 k4 (fun i H h => h) (fun i H h => h) (fun i H v H' h => h)
            · exact p1.elim
    · exact p1.elim⟩
end
end DL
end

section
set_option Elab.async false
set_option linter.all false
set_option maxRecDepth 100000
set_option maxHeartbeats 1000000
/-! DL10: for, while, comprehensions, the rule for a def. -/
namespace DL
open PySem PySem.Spec PyProof.Rows L2

/-! ### for -/
def forGo (tg : D → Gam → Option Gam) (body : Gam → RS) : List D → Gam → RS
  | [], Γ => .nx Γ
  | d :: ds, Γ => match tg d Γ with
    | none => .stuck
    | some Γ1 => match body Γ1 with
      | .nx Γ2 => forGo tg body ds Γ2
      | .ct Γ2 => forGo tg body ds Γ2
      | .bk Γ2 => .nx Γ2
      | r => r
def forM (mi : Gam → R Src) (tg : D → Gam → Option Gam) (body : Gam → RS) : Gam → RS := fun Γ => stm (mi Γ) fun s Γ1 => match s.br with
  | none => forGo tg body s.items Γ1
  | some _ => .stuck
section
variable {X : Cx} {M : Pm} {E : XK} {tg iter e a b c : Expr} {body rest : List Stmt} {m : Gam → RS} {mi : Gam → R Src} {ts : List Nat} {tgm : D → Gam → Option Gam} {pos : Pos} {me : Gam → R Val}
theorem post_stmI {r : R Src} {k : Src → Gam → RS} {σ : L2.St} {F0 H0 : Hp} {own0 : Own} {D : Ends} {Q' : It → Hp → Prop} (p : PostS M E F0 H0 own0 D (stm r k))
    (hk : ∀ F1 H1 own1 Γ1 J s, StR M Γ1 σ F1 H1 own1 → Step F0 H0 own0 F1 H1 own1 → ItD M J σ F1 s → s.ok Γ1 → PostS M E F0 H0 own0 D (k s Γ1) → Q' J H1) : PostI M E σ F0 H0 own0 Q' r := by
  cases e : r with
  | ok s Γ1 =>
    simp only [e, stm_ok] at p
    exact fun F1 H1 own1 J st1 s1 hI ok => hk F1 H1 own1 Γ1 J s st1 s1 hI ok p
  | err x Γ1 =>
    simp only [e, stm_err] at p
    exact p σ
  | stuck =>
    simp only [e, stm_stuck] at p
    exact p
theorem s_for (hp : PassesOwn (model X.prog X.w) X.A X.env X.xe) (hc : X.calm = true) (hi : PI X tg iter (tI M E mi)) (hg : PG X tg (tGt M ts tgm)) (hb : PSs X body (tS M E m))
    (hs : ∀ x, foldedSetIterable iter X.env x = pure x := by intro _; rfl) : PS X (.For tg iter body [] pos) (tS M E (forM mi tgm m)) := PS_weak (ps_for hp hc hi hg hb hs) fun D σ H ⟨Γ, F, own, s, q⟩ => by
  refine ⟨Γ, F, own, s, post_stmI q fun F1 H1 own1 Γ1 J sr st1 s1 hI ok p1 => ?_⟩
  split at p1
  · rename_i hbr
    refine ⟨fun i k σ H => i ≤ sr.items.length ∧ k = sr.items.length - i ∧ ∃ Γ F own, StR M Γ σ F H own ∧ Ex F1 F ∧ PostS M E F H own D (forGo tgm m (sr.items.drop i) Γ),
      ⟨_, Nat.zero_le _, rfl, Γ1, F1, own1, st1, .refl _, by rw [List.drop_zero]; exact p1.mono s1⟩, fun i k σ H ⟨hi', hk, Γ2, F2, own2, st2, e2, p2⟩ => ?_⟩
    have okΓ : ∀ Γ : Gam, sr.ok Γ := fun Γ k ds h => by rw [hbr] at h; cases h
    have noσ : ∀ {σ' : L2.St} {σ0 : L2.St}, ∀ k ds, sr.br = some (k, ds) → σ'[k]? = σ0[k]? := fun k ds h => by rw [hbr] at h; cases h
    by_cases he : i = sr.items.length
    · left
      refine ⟨hI.stop i Γ2 σ F2 H own2 he st2 e2 (okΓ _) noσ, ?_⟩
      rw [he, List.drop_length] at p2
      exact p2 σ F2 H own2 st2 (.refl _ _ _)
    · right
      have hlt : i < sr.items.length := by omega
      refine ⟨hI.go i Γ2 σ F2 H own2 hlt st2 e2 (okΓ _) noσ, fun σ' H' => i + 1 ≤ sr.items.length ∧ ∃ Γ F own, StR M Γ σ' F H' own ∧ Ex F1 F ∧ PostS M E F H' own D (forGo tgm m (sr.items.drop (i + 1)) Γ),
        fun σ' H' ⟨h1, h2⟩ => ⟨sr.items.length - (i + 1), by omega, h1, rfl, h2⟩, fun x H' hy => ?_⟩
      obtain ⟨F3, d, g, hd, rd⟩ := hI.yld i Γ2 σ F2 H own2 x H' hlt st2 e2 (okΓ _) noσ hy
      have hdrop : sr.items.drop i = d :: sr.items.drop (i + 1) := by
        rw [List.drop_eq_getElem_cons hlt]
        congr 1
        have := List.getElem?_eq_getElem hlt
        rw [hd] at this
        exact (Option.some.inj this).symm
      rw [hdrop] at p2
      have st3 := st2.grow g
      have p3 := p2.mono (g.step own2)
      refine ⟨Γ2, F3, own2, d, st3, rd, ?_⟩
      simp only [forGo] at p3
      cases ht : tgm d Γ2 with
      | none =>
        rw [ht] at p3
        exact p3.elim
      | some Γ3 =>
        rw [ht] at p3
        intro σ' own' st' step' _ _
        refine ⟨Γ3, F3, own', st', ?_⟩
        have p4 := p3.mono step'
        have e3 : Ex F1 F3 := e2.trans g.ff
        cases hm : m Γ3 with
        | nx Γ4 =>
          simp only [hm] at p4
          exact fun σ'' F'' H'' own'' st'' step'' => ⟨hlt, Γ4, F'', own'', st'', e3.trans step''.ff, p4.mono step''⟩
        | ct Γ4 =>
          simp only [hm] at p4
          exact fun σ'' F'' H'' own'' st'' step'' => ⟨hlt, Γ4, F'', own'', st'', e3.trans step''.ff, p4.mono step''⟩
        | bk Γ4 =>
          simp only [hm] at p4
          exact p4
        | rt v Γ4 =>
          simp only [hm] at p4
          exact p4
        | err x Γ4 =>
          simp only [hm] at p4
          exact p4
        | stuck =>
          simp only [hm] at p4
          exact p4
  · exact p1.elim
/-- a walked thing, frozen first: what a for statement takes -/
def srcZ (m : Gam → R Val) : Gam → R Src := fun Γ => (fzL m Γ).bind fun d Γ1 => srcF' Γ1 (.f d)
theorem i_seqZ (hK : X.K = M.K) (h : PE X e (tE M E me)) : PI X tg e (tI M E (srcZ me)) := PI_weak (pi_seq (pe_fz h)) fun σ H R' ⟨Γ, F, own, s, q⟩ => by
  refine ⟨Γ, F, own, s, post_srcb q fun F1 H1 own1 Γ1 x a st1 s1 r1 p1 => ?_⟩
  rw [hK]
  unfold srcF' at p1
  split at p1
  · rename_i h
    cases h
    cases r1
    exact .inr ⟨_, rfl, p1 F1 H1 own1 _ st1 s1 (itd_str _) (fun _ _ h => by simp at h)⟩
  · cases es : srcF Γ1 (.f a) with
    | stuck => rw [es] at p1; exact p1.elim
    | err y Γ2 => exact (srcF_ns es).elim
    | ok sr Γ2 =>
      rw [es] at p1
      obtain ⟨rfl, ok, q, rfl, ⟨⟨xs, h1, _⟩, h2⟩ | ⟨⟨xs, _, h1, _⟩, _, h2⟩⟩ := src_ok st1 (show ValRd M σ F1 x (.f a) from r1) es
      · exact .inl ⟨q, rfl, .inl ⟨⟨xs, h1⟩, p1 F1 H1 own1 _ st1 s1 h2 ok⟩⟩
      · exact .inl ⟨q, rfl, .inr ⟨⟨xs, h1⟩, p1 F1 H1 own1 _ st1 s1 h2 ok⟩⟩
/-! ### arguments that are frozen, for what reads them as values -/
def fzA (ms : Gam → R (List D)) : Gam → R (List Val) := fun Γ => (ms Γ).bind fun ds Γ1 => .ok (ds.map Val.f) Γ1
theorem valsRd_f {σ : L2.St} {F : Hp} : ∀ {vs : List V} {ds : List D}, RepAll M.cls F vs ds → ValsRd M σ F vs (ds.map Val.f)
  | _, _, .nil => .nil
  | _, _, .cons h r => .cons h (valsRd_f r)
theorem a_fz {es : List Expr} {ms : Gam → R (List D)} (h : PA X es (tFs M E ms)) : PA X es (tA M E (fzA ms)) := PA_weak h fun σ H Q ⟨Γ, F, own, s, q⟩ =>
  ⟨Γ, F, own, s, post_bind q fun F1 H1 own1 Γ1 x a _ st1 s1 r1 p1 => p1 x F1 H1 own1 st1 s1 (valsRd_f r1)⟩
/-! ### while -/
def whileGo (t : Gam → R Bool) (body : Gam → RS) : Nat → Gam → RS
  | 0, _ => .stuck
  | n + 1, Γ => stm (t Γ) fun b Γ1 => if b = true then match body Γ1 with
      | .nx Γ2 => whileGo t body n Γ2
      | .ct Γ2 => whileGo t body n Γ2
      | .bk Γ2 => .nx Γ2
      | r => r
    else .nx Γ1
theorem s_while {t : Gam → R Bool} (fuel : Gam → Nat) (hp : PassesOwn (model X.prog X.w) X.A X.env X.xe) (hc : PT X c (tT M E t)) (hb : PSs X body (tS M E m)) : PS X (.While c body [] pos) (tS M E (fun Γ => whileGo t m (fuel Γ) Γ)) := PS_weak (ps_while hp hc hb) fun D σ H ⟨Γ, F, own, s, q⟩ => by
  refine ⟨fun n σ H => ∃ Γ F own, StR M Γ σ F H own ∧ PostS M E F H own D (whileGo t m n Γ), ⟨_, Γ, F, own, s, q⟩, fun n σ H ⟨Γ, F, own, s, q⟩ => ?_⟩
  cases n with
  | zero => exact q.elim
  | succ n =>
    refine ⟨Γ, F, own, s, post_stm q fun F1 H1 own1 Γ1 x a _ s1 st1 r p1 => ?_⟩
    cases r
    by_cases h : x = true
    · rw [if_pos h] at p1 ⊢
      refine ⟨fun σ' H' => ∃ Γ F own, StR M Γ σ' F H' own ∧ PostS M E F H' own D (whileGo t m n Γ), fun σ' H' z => ⟨n, Nat.lt_succ_self n, z⟩, Γ1, F1, own1, s1, ?_⟩
      have p2 := p1.mono st1
      cases hm : m Γ1 with
      | nx Γ4 =>
        simp only [hm] at p2
        exact fun σ'' F'' H'' own'' st'' step'' => ⟨Γ4, F'', own'', st'', p2.mono step''⟩
      | ct Γ4 =>
        simp only [hm] at p2
        exact fun σ'' F'' H'' own'' st'' step'' => ⟨Γ4, F'', own'', st'', p2.mono step''⟩
      | bk Γ4 =>
        simp only [hm] at p2
        exact p2
      | rt v Γ4 =>
        simp only [hm] at p2
        exact p2
      | err x Γ4 =>
        simp only [hm] at p2
        exact p2
      | stuck =>
        simp only [hm] at p2
        exact p2
    · rw [if_neg h] at p1 ⊢
      exact p1 σ F1 H1 own1 s1 st1
end
/-! ### comprehensions -/
def wipeG (Γ : Gam) : List Nat → Gam
  | [] => Γ
  | v :: vs => (wipeG Γ vs).set v .un
def keepV : Option Slot → Slot
  | some (.one (.fz d)) => .val d
  | _ => .un
def restG (Γ0 Γ : Gam) : List Nat → Gam
  | [] => Γ
  | v :: vs => (restG Γ0 Γ vs).set v (keepV Γ0[v]?)
theorem wipeG_length (Γ : Gam) : ∀ vs, (wipeG Γ vs).length = Γ.length
  | [] => rfl
  | v :: vs => by simp [wipeG, wipeG_length Γ vs]
theorem restG_length (Γ0 Γ : Gam) : ∀ vs, (restG Γ0 Γ vs).length = Γ.length
  | [] => rfl
  | v :: vs => by simp [restG, restG_length Γ0 Γ vs]
theorem wipeG_at (Γ : Gam) : ∀ vs j, (wipeG Γ vs)[j]? = if j ∈ vs ∧ j < Γ.length then some .un else Γ[j]?
  | [], j => by simp [wipeG]
  | v :: vs, j => by
    simp only [wipeG]
    by_cases e : j = v
    · subst e
      by_cases hl : j < Γ.length
      · rw [List.getElem?_set_self (by rw [wipeG_length]; exact hl), if_pos ⟨List.mem_cons_self, hl⟩]
      · rw [if_neg (by simp [hl]), List.getElem?_eq_none (by simp [wipeG_length]; omega), List.getElem?_eq_none (by omega)]
    · rw [List.getElem?_set_ne (Ne.symm e), wipeG_at Γ vs j]
      simp [e]
theorem restG_at (Γ0 Γ : Gam) : ∀ vs j, (restG Γ0 Γ vs)[j]? = if j ∈ vs ∧ j < Γ.length then some (keepV Γ0[j]?) else Γ[j]?
  | [], j => by simp [restG]
  | v :: vs, j => by
    simp only [restG]
    by_cases e : j = v
    · subst e
      by_cases hl : j < Γ.length
      · rw [List.getElem?_set_self (by rw [restG_length]; exact hl), if_pos ⟨List.mem_cons_self, hl⟩]
      · rw [if_neg (by simp [hl]), List.getElem?_eq_none (by simp [restG_length]; omega), List.getElem?_eq_none (by omega)]
    · rw [List.getElem?_set_ne (Ne.symm e), restG_at Γ0 Γ vs j]
      simp [e]
theorem wipe_at (σ : L2.St) : ∀ vs j, (wipe σ vs)[j]? = if j ∈ vs ∧ j < σ.length then some none else σ[j]?
  | [], j => by simp [wipe]
  | v :: vs, j => by
    simp only [wipe]
    by_cases e : j = v
    · subst e
      by_cases hl : j < σ.length
      · rw [List.getElem?_set_self (by rw [wipe_length]; exact hl), if_pos ⟨List.mem_cons_self, hl⟩]
      · rw [if_neg (by simp [hl]), List.getElem?_eq_none (by simp [wipe_length]; omega), List.getElem?_eq_none (by omega)]
    · rw [List.getElem?_set_ne (Ne.symm e), wipe_at σ vs j]
      simp [e]
section
variable {M : Pm} {Γ Γ0 : Gam} {σ σ' : L2.St} {F0 H0 F H : Hp} {own0 own : Own}
theorem StR.wiped (s : StR M Γ σ F H own) (vs : List Nat) : StR M (wipeG Γ vs) (wipe σ vs) F H (fun j a => j ∉ vs ∧ own j a) where
  len := by rw [wipeG_length, wipe_length, s.len]
  fh := s.fh
  slot := fun j x h => by
    rw [wipeG_at] at h
    rw [wipe_at]
    by_cases q : j ∈ vs ∧ j < Γ.length
    · rw [if_pos q] at h
      cases h
      exact fun a z => z.1 q.1
    · rw [if_neg q] at h
      have hl : j < Γ.length := (List.getElem?_eq_some_iff.mp h).1
      have hv : j ∉ vs := fun z => q ⟨z, hl⟩
      rw [if_neg fun z => hv z.1]
      have e : (fun a => j ∉ vs ∧ own j a) = own j := by
        funext a
        simp [hv]
      rw [e]
      exact s.slot j x h
  out := fun j hj a z => s.out j (by rw [wipeG_length] at hj; exact hj) a z.2
  free := fun j a z => s.free j a z.2
  there := fun j a z => s.there j a z.2
  disj := fun j k a z z' => s.disj j k a z.2 z'.2
theorem step_wiped (st : Step F0 H0 own0 F H own) (vs : List Nat) : Step F0 H0 own0 F H (fun j a => j ∉ vs ∧ own j a) := ⟨st.ff, st.hh, st.nf, fun j a z => st.no j a z.2, st.al⟩
/-- a state over wiped slots, whatever the slots held -/
theorem StR.toWiped (s : StR M Γ σ' F H own) {vs : List Nat} (h : wipe σ' vs = wipe σ vs) : StR M (wipeG Γ vs) (wipe σ vs) F H (fun j a => j ∉ vs ∧ own j a) := by
  rw [← h]
  exact s.wiped vs
/-- behind a comprehension: the outer slots again -/
theorem StR.restored {F1 H1 : Hp} {own1 : Own} (s : StR M Γ (wipe σ vs) F H own) (s0 : StR M Γ0 σ F1 H1 own1) (e : Ex F1 F) : StR M (restG Γ0 Γ vs) σ F H (fun j a => j ∉ vs ∧ own j a) where
  len := by
    have := s.len
    rw [wipe_length] at this
    rw [restG_length, this]
  fh := s.fh
  slot := fun j x h => by
    have hlen : Γ.length = σ.length := by
      have := s.len
      rw [wipe_length] at this
      exact this
    rw [restG_at] at h
    by_cases q : j ∈ vs ∧ j < Γ.length
    · rw [if_pos q] at h
      cases h
      have hj0 : j < Γ0.length := by rw [s0.len, ← hlen]; exact q.2
      have e0 : (fun a => j ∉ vs ∧ own j a) = fun _ => False := by
        funext a
        simp [q.1]
      rw [e0]
      have h0 := s0.slot j Γ0[j] (List.getElem?_eq_getElem hj0)
      rw [List.getElem?_eq_getElem hj0]
      cases hk : Γ0[j] with
      | one f =>
        rw [hk] at h0
        cases f with
        | fz d =>
          obtain ⟨v, hv, _, r⟩ := h0
          exact ⟨v, hv, fun _ h => h, r.mono e⟩
        | _ => exact fun _ h => h
      | _ => exact fun _ h => h
    · rw [if_neg q] at h
      have hl : j < Γ.length := (List.getElem?_eq_some_iff.mp h).1
      have hv : j ∉ vs := fun z => q ⟨z, hl⟩
      have := s.slot j x h
      rw [wipe_at, if_neg fun z => hv z.1] at this
      have e0 : (fun a => j ∉ vs ∧ own j a) = own j := by
        funext a
        simp [hv]
      rw [e0]
      exact this
  out := fun j hj a z => s.out j (by rw [restG_length] at hj; exact hj) a z.2
  free := fun j a z => s.free j a z.2
  there := fun j a z => s.there j a z.2
  disj := fun j k a z z' => s.disj j k a z.2 z'.2
/-- an object that no slot owns, not frozen, changes -/
theorem StR.updFree {p : Addr} {o : HO} (s : StR M Γ σ F H own) (hF : F p = none) (hO : ∀ i, ¬ own i p) : StR M Γ σ F (upd H p o) own where
  len := s.len
  fh := fun a u e => by
    rw [upd_ne (ne_of_none e hF)]
    exact s.fh a u e
  slot := fun i x h => (s.slot i x h).mono (.refl _) fun b u hb hu => by
    rw [upd_ne fun e => hO i (by rw [← e]; exact hb)]
    exact hu
  out := s.out
  free := s.free
  there := fun i a h => by
    by_cases e : a = p
    · rw [e, upd_same]
      simp
    · rw [upd_ne e]
      exact s.there i a h
  disj := s.disj
theorem Step.updFree {p : Addr} {o : HO} (st : Step F0 H0 own0 F H own) (h0 : H0 p = Option.none) : Step F0 H0 own0 F (upd H p o) own :=
  ⟨st.ff, fun a u h n => by
    rw [upd_ne (ne_of_none h h0)]
    exact st.hh a u h n, st.nf, st.no, fun a h => by
    by_cases e : a = p
    · rw [e, upd_same]
      simp
    · rw [upd_ne e]
      exact st.al a h⟩
end
def brOk (br : Option (Nat × List D)) (vs : List Nat) : Bool := match br with
  | none => true
  | some p => !decide (p.1 ∈ vs)
def guardB (br : Option (Nat × List D)) (_ : Gam) : Bool := match br with
  | none => true
  | some _ => false
@[simp] theorem guardB_none (Γ : Gam) : guardB none Γ = true := rfl
theorem guardB_ok {br : Option (Nat × List D)} {Γ : Gam} (h : guardB br Γ = true) : Src.ok ⟨[], br⟩ Γ := by
  cases br with
  | none => exact fun _ _ e => by cases e
  | some p => cases h
def compGo (tg : D → Gam → Option Gam) (tt : Gam → R Bool) (te : Gam → R D) (vs : List Nat) (br : Option (Nat × List D)) : List D → Gam → List D → R (List D)
  | [], Γ, acc => if guardB br Γ = true then .ok acc Γ else .stuck
  | d :: ds, Γ, acc => if guardB br Γ = true then match tg d Γ with
      | none => .stuck
      | some Γ1 => (tt Γ1).bind fun b Γ2 => if b = true then (te Γ2).bind fun y Γ3 => if acc.length < sizeLine then compGo tg tt te vs br ds (wipeG Γ3 vs) (acc ++ [y]) else .stuck
        else compGo tg tt te vs br ds (wipeG Γ2 vs) acc
    else .stuck
def compEnd (Γ0 : Gam) (vs : List Nat) : R (List D) → R Val
  | .ok ds Γ => if ds.length ≤ sizeLine then .ok (.n (.ol ds)) (restG Γ0 Γ vs) else .stuck
  | _ => .stuck
def compM (mi : Gam → R Src) (tg : D → Gam → Option Gam) (tt : Gam → R Bool) (te : Gam → R D) (ts vs : List Nat) : Gam → R Val := fun Γ => (mi Γ).bind fun s Γ1 =>
  if (ts.all (fun t => decide (t ∈ vs)) && brOk s.br vs) = true then compEnd Γ1 vs (compGo tg tt te vs s.br s.items (wipeG Γ1 vs) []) else .stuck
def yesM : Gam → R Bool := fun Γ => .ok true Γ
section
variable {X : Cx} {M : Pm} {E : XK} {tg iter e a b c elt : Expr} {ifs : List Expr} {mi : Gam → R Src} {ts : List Nat} {tgm : D → Gam → Option Gam} {pos : Pos} {me : Gam → R Val} {tt : Gam → R Bool} {te : Gam → R D}
theorem PTs_weak {t t' : TT} (h : PTs X ifs t) (w : ∀ σ H Q, t' σ H Q → t σ H Q) : PTs X ifs t' := ⟨fun pins s σ H Q I q => h.run pins s σ H Q I (w σ H Q q)⟩
theorem ts_nil : PTs X [] (tT M E yesM) := PTs_weak pts_nil fun σ H Q ⟨Γ, F, own, s, q⟩ => q true F H own s (.refl _ _ _) rfl
theorem ts_one (h : PT X c (tT M E tt)) : PTs X [c] (tT M E tt) := pts_one h
theorem tLc_ok {vs : List Nat} {σ : L2.St} {H : Hp} {Q : VK} (q : tE M E (compM mi tgm tt te ts vs) σ H Q) : tLc (tI M E mi) (tGt M ts tgm) (tT M E0 tt) (tF M E0 te) vs σ H Q := by
  obtain ⟨Γ, F, own, s, q⟩ := q
  refine ⟨Γ, F, own, s, ?_⟩
  unfold compM at q
  cases e : mi Γ with
  | stuck =>
    rw [e] at q
    exact q
  | err x Γ1 =>
    rw [e] at q
    exact q
  | ok sr Γ1 =>
    rw [e] at q
    simp only [R.bind_ok] at q
    by_cases hc : (ts.all (fun t => decide (t ∈ vs)) && brOk sr.br vs) = true
    · rw [if_pos hc] at q
      simp only [Bool.and_eq_true, List.all_eq_true, decide_eq_true_eq] at hc
      obtain ⟨hts, hbr⟩ := hc
      intro F1 H1 own1 J st1 s1 hI ok Dl hD
      have hF1 : F1 Dl = none := st1.fh.back hD
      have hO1 : ∀ i, ¬ own1 i Dl := fun i hi => st1.there i Dl hi hD
      have brσ : ∀ k ds, sr.br = some (k, ds) → (wipe σ vs)[k]? = σ[k]? := fun k ds h => by
        rw [h] at hbr
        simp [brOk] at hbr
        rw [wipe_at, if_neg fun z => hbr z.1]
      have h0 : H Dl = none := s1.none Dl hD
      refine ⟨fun i k H' => i ≤ sr.items.length ∧ k = sr.items.length - i ∧ ∃ Γ' F' own' acc vacc, StR M Γ' (wipe σ vs) F' H' own' ∧ Step F1 H1 own1 F' H' own' ∧ H' Dl = some (.lst vacc) ∧ F' Dl = none ∧ (∀ j, ¬ own' j Dl) ∧ RepAll M.cls F' vacc acc ∧
          PostG (relV M) M E σ F H own Q (compEnd Γ1 vs (compGo tgm tt te vs sr.br (sr.items.drop i) Γ' acc)),
        ⟨_, Nat.zero_le _, rfl, wipeG Γ1 vs, F1, _, [], [], (st1.wiped vs).updFree hF1 (fun i z => hO1 i z.2), (step_wiped (.refl F1 H1 own1) vs).updFree hD, upd_same, hF1, fun i z => hO1 i z.2, .nil, by rw [List.drop_zero]; exact q⟩, fun i k H' ⟨hi, hk, Γ2, F2, own2, acc, vacc, st2, s2, hl2, hF2, hO2, r2, p2⟩ => ?_⟩
      by_cases he : i = sr.items.length
      · rw [he, List.drop_length] at p2
        simp only [compGo] at p2
        by_cases hgd : guardB sr.br Γ2 = true
        · rw [if_pos hgd] at p2
          simp only [compEnd] at p2
          by_cases hz : acc.length ≤ sizeLine
          · rw [if_pos hz] at p2
            left
            refine ⟨hI.stop i Γ2 (wipe σ vs) F2 H' own2 he st2 s2.ff (guardB_ok hgd) brσ, ?_⟩
            have st3 := st2.restored st1 s2.ff
            refine p2 _ F2 H' _ st3 (s1.trans (step_wiped s2 vs)) ⟨fun a => a = Dl, ⟨Dl, vacc, rfl, fun _ => .rfl, hl2, r2⟩, fun a ha => ?_⟩
            subst ha
            exact ⟨hF2, by rw [hl2]; simp, fun j z => hO2 j z.2, h0⟩
          · rw [if_neg hz] at p2
            exact p2.elim
        · rw [if_neg hgd] at p2
          exact p2.elim
      · right
        have hlt : i < sr.items.length := by omega
        have hdrop : sr.items.drop i = sr.items[i] :: sr.items.drop (i + 1) := List.drop_eq_getElem_cons hlt
        rw [hdrop] at p2
        simp only [compGo] at p2
        by_cases hgd : guardB sr.br Γ2 = true
        · rw [if_pos hgd] at p2
          have gok := guardB_ok hgd
          refine ⟨hI.go i Γ2 (wipe σ vs) F2 H' own2 hlt st2 s2.ff gok brσ, fun H' => i + 1 ≤ sr.items.length ∧ ∃ Γ' F' own' acc vacc, StR M Γ' (wipe σ vs) F' H' own' ∧ Step F1 H1 own1 F' H' own' ∧ H' Dl = some (.lst vacc) ∧ F' Dl = none ∧ (∀ j, ¬ own' j Dl) ∧ RepAll M.cls F' vacc acc ∧
            PostG (relV M) M E σ F H own Q (compEnd Γ1 vs (compGo tgm tt te vs sr.br (sr.items.drop (i + 1)) Γ' acc)), fun H' ⟨z1, z2⟩ => ⟨sr.items.length - (i + 1), by omega, z1, rfl, z2⟩, fun x H'' hy => ?_⟩
          obtain ⟨F3, d, g, hd, rd⟩ := hI.yld i Γ2 (wipe σ vs) F2 H' own2 x H'' hlt st2 s2.ff gok brσ hy
          have hde : sr.items[i] = d := by
            have := List.getElem?_eq_getElem hlt
            rw [hd] at this
            exact (Option.some.inj this).symm
          rw [hde] at p2
          have st3 := st2.grow g
          have s3 := s2.trans (g.step own2)
          have hl3 : H'' Dl = some (.lst vacc) := g.hh _ _ hl2
          have hF3 : F3 Dl = none := g.nf Dl hF2 (by rw [hl2]; simp)
          refine ⟨Γ2, F3, own2, d, st3, rd, ?_⟩
          cases ht : tgm d Γ2 with
          | none =>
            rw [ht] at p2
            exact p2.elim
          | some Γ3 =>
            rw [ht] at p2
            intro σ4 own4 st4 step4 k4 l4
            have hw : wipe σ4 vs = wipe σ vs := by
              apply List.ext_getElem?
              intro j
              rw [wipe_at, wipe_at]
              rw [wipe_length] at l4
              by_cases hj : j ∈ vs
              · by_cases hl : j < σ.length
                · rw [if_pos ⟨hj, by rw [l4]; exact hl⟩, if_pos ⟨hj, hl⟩]
                · rw [if_neg (by rw [l4]; exact fun z => hl z.2), if_neg (fun z => hl z.2), List.getElem?_eq_none (by omega), List.getElem?_eq_none (by omega)]
              · rw [if_neg (fun z => hj z.1), if_neg (fun z => hj z.1), k4 j (fun z => hj (hts j z)), wipe_at, if_neg fun z => hj z.1]
            refine ⟨hw, Γ3, F3, own4, st4, ?_⟩
            have hO4 : ∀ j, ¬ own4 j Dl := fun j hj => by
              rcases step4.no j Dl hj with ⟨k, hk⟩ | q
              · exact hO2 k hk
              · rw [hl3] at q
                cases q
            have s4 := s3.trans step4
            cases e4 : tt Γ3 with
            | stuck =>
              simp only [e4, R.bind_stuck, compEnd] at p2
              exact p2
            | err y Γ4 =>
              simp only [e4, R.bind_err, compEnd] at p2
              exact p2.elim
            | ok b Γ4 =>
              simp only [e4, R.bind_ok] at p2
              intro b' F5 H5 own5 st5 s5 rb
              have hbb : b' = b := rb
              rw [hbb]
              have s5' := s4.trans s5
              have hl5 : H5 Dl = some (.lst vacc) := s5.hh _ _ hl3 hO4
              have hF5 : F5 Dl = none := s5.nf Dl hF3 (by rw [hl3]; simp) hO4
              have hO5 : ∀ j, ¬ own5 j Dl := fun j hj => by
                rcases s5.no j Dl hj with ⟨k, hk⟩ | q
                · exact hO4 k hk
                · rw [hl3] at q
                  cases q
              have r5 : RepAll M.cls F5 vacc acc := (r2.mono g.ff).mono s5.ff
              by_cases hb : b = true
              · rw [if_pos hb] at p2 ⊢
                refine ⟨Γ4, F5, own5, st5, ?_⟩
                cases e6 : te Γ4 with
                | stuck =>
                  simp only [e6, R.bind_stuck, compEnd] at p2
                  exact p2
                | err y Γ6 =>
                  simp only [e6, R.bind_err, compEnd] at p2
                  exact p2.elim
                | ok y Γ6 =>
                  simp only [e6, R.bind_ok] at p2
                  intro v F6 H6 own6 st6 s6 rv
                  by_cases hz : acc.length < sizeLine
                  · rw [if_pos hz] at p2
                    have s6' := s5'.trans s6
                    have hl6 : H6 Dl = some (.lst vacc) := s6.hh _ _ hl5 hO5
                    have hF6 : F6 Dl = none := s6.nf Dl hF5 (by rw [hl5]; simp) hO5
                    have hO6 : ∀ j, ¬ own6 j Dl := fun j hj => by
                      rcases s6.no j Dl hj with ⟨k, hk⟩ | q
                      · exact hO5 k hk
                      · rw [hl5] at q
                        cases q
                    have r6 := r5.mono s6.ff
                    refine ⟨vacc, hl6, by rw [r6.length]; exact hz, hlt, wipeG Γ6 vs, F6, _, acc ++ [y], vacc ++ [v], (st6.toWiped hw).updFree hF6 (fun i z => hO6 i z.2), (step_wiped s6' vs).updFree hD, upd_same, hF6, fun i z => hO6 i z.2, r6.snoc rv, p2⟩
                  · rw [if_neg hz] at p2
                    exact p2.elim
              · rw [if_neg hb] at p2 ⊢
                exact ⟨hlt, wipeG Γ4 vs, F5, _, acc, vacc, st5.toWiped hw, step_wiped s5' vs, hl5, hF5, fun i z => hO5 i z.2, r5, p2⟩
        · rw [if_neg hgd] at p2
          exact p2.elim
    · rw [if_neg hc] at q
      exact q.elim
theorem e_lc {own : List (Str × Nat)} {scope : Scope} (hc : X.calm = true) (hN : X.N.Nodup) (hi : PI X tg iter (tI M E mi)) (ok : BlkOk X.N X.env.scope scope own)
    (hg : ∀ (s : Shared) (H : Hp) (C : Addr) (cl : List (Str × Addr)) (fp : List Addr), PG (X.blk s H scope (compEnvC scope cl C X.env) fp) tg (tGt M ts tgm)) (ht : ∀ (s : Shared) (H : Hp) (C : Addr) (cl : List (Str × Addr)) (fp : List Addr), PTs (X.blk s H scope (compEnvC scope cl C X.env) fp) ifs (tT M E0 tt))
    (he : ∀ (s : Shared) (H : Hp) (C : Addr) (cl : List (Str × Addr)) (fp : List Addr), PE (X.blk s H scope (compEnvC scope cl C X.env) fp) elt (tE M E0 me)) (hs : ∀ x, foldedSetIterable iter X.env x = pure x := by intro _; rfl) :
    PE X (.ListComp elt [⟨tg, iter, ifs, 0⟩] scope pos) (tE M E (compM mi tgm tt (fzL me) ts (own.map (·.2)))) :=
  PE_weak (pe_lc hc hN hi ok hg ht (fun s H C cl fp => pe_fz (he s H C cl fp)) hs) fun _ _ _ q => tLc_ok q
theorem s_setLc {i : Nat} {y : Str} {py : Pos} {own : List (Str × Nat)} {scope : Scope} {spos : Pos} (hc : X.calm = true) (hN : X.N.Nodup) (hy : X.N[i]? = some y) (hyl : X.env.scope.names.lookup y = some .local)
    (hsw : swapsWith (.ListComp elt [⟨tg, iter, ifs, 0⟩] scope pos) (some (.Name y py)) spos.line X.env = pure true) (hi : PI X tg iter (tI M E mi)) (ok : BlkOk X.N X.env.scope scope own)
    (hg : ∀ (s : Shared) (H : Hp) (C : Addr) (cl : List (Str × Addr)) (fp : List Addr), PG (X.blk s H scope (compEnvC scope cl C X.env) fp) tg (tGt M ts tgm)) (ht : ∀ (s : Shared) (H : Hp) (C : Addr) (cl : List (Str × Addr)) (fp : List Addr), PTs (X.blk s H scope (compEnvC scope cl C X.env) fp) ifs (tT M E0 tt))
    (he : ∀ (s : Shared) (H : Hp) (C : Addr) (cl : List (Str × Addr)) (fp : List Addr), PE (X.blk s H scope (compEnvC scope cl C X.env) fp) elt (tE M E0 me)) (hs : ∀ x, foldedSetIterable iter X.env x = pure x := by intro _; rfl) :
    PS X (.Assign [.Name y py] (.ListComp elt [⟨tg, iter, ifs, 0⟩] scope pos) spos) (tS M E (setM i (compM mi tgm tt (fzL me) ts (own.map (·.2))))) :=
  PS_weak (ps_setLc hc hN hy hyl hsw hi ok hg ht (fun s H C cl fp => pe_fz (he s H C cl fp)) hs) fun D σ H ⟨Γ, F, own', s, p⟩ =>
    tLc_ok (Q := fun x H1 => D.nx (σ.set i (some x)) H1) ⟨Γ, F, own', s, post_stm p fun F1 H1 own1 Γ1 x a _ s1 st1 r p1 => set_ok s1 st1 r p1⟩
end
/-! ### a def -/
end DL
end

section
set_option Elab.async false
set_option linter.all false
set_option maxRecDepth 100000
set_option maxHeartbeats 1000000
/-! DL11: the rule for a def; what callers take; first built-ins. -/
namespace DL
open PySem PySem.Spec PyProof.Rows L2

/-! ### arguments at the start and at the end -/
def isVal : Slot → Bool
  | .one (.fz _) => true
  | .vw _ => true
  | _ => false
def pinned : Slot → Bool
  | .cmp _ (some _) _ => true
  | .box _ (some _) _ => true
  | _ => false
def pinS : Slot → Slot
  | .cmp c _ fds => .cmp c (some 0) fds
  | .box n _ d => .box n (some 0) d
  | s => s
def pinA : List Slot → List Slot
  | s :: r => pinS s :: r
  | [] => []
def argOk : List Slot → Bool
  | s :: r => (isBx s || isVal s) && r.all isVal
  | [] => true
def startA (nl : Nat) (As : List Slot) : Gam := pinA As ++ List.replicate (nl - As.length) .un
def finA (As : List Slot) (Γ : Gam) : Option (List Slot) := match As with
  | [] => some []
  | s :: r => if isBx s = true then match Γ with
      | t :: _ => if pinned t = true then some (unpin t :: r) else none
      | [] => none
    else some (s :: r)
def outG (As : List Slot) : RS → R Val
  | .rt v Γ => if outV v = true then match finA As Γ with
      | some As' => .ok v As'
      | none => .stuck
    else .stuck
  | .nx Γ => match finA As Γ with
      | some As' => .ok (.f .none) As'
      | none => .stuck
  | .err e Γ => match finA As Γ with
      | some As' => .err e As'
      | none => .stuck
  | _ => .stuck
def gOf (np nl : Nat) (m : Gam → RS) : List Slot → R Val := fun As => if As.length = np ∧ argOk As = true then outG As (m (startA nl As)) else .stuck
theorem gOf_len {M : Pm} {np nl : Nat} {m : Gam → RS} : ∀ vs H Q E, spG M (gOf np nl m) vs H Q E → vs.length = np := by
  rintro vs H Q E ⟨As, F, own, st, p⟩
  unfold gOf at p
  have hl := st.len
  simp at hl
  by_cases h : As.length = np ∧ argOk As = true
  · omega
  · rw [if_neg h] at p
    exact p.elim
theorem val_slot {s : Slot} (h : isVal s = true) : (∃ d, s = .val d) ∨ ∃ ds, s = .vw ds := by
  cases s with
  | one f => cases f with
    | fz d => exact .inl ⟨d, rfl⟩
    | _ => cases h
  | vw ds => exact .inr ⟨ds, rfl⟩
  | _ => cases h
theorem val_keep {K : PySem.W.Frag} {cls : Str → Addr} {a0 a1 : Option Addr} {F H F' H' : Hp} {o : Ow} {ov : Option (Option V)} {s : Slot} (hv : isVal s = true) (h : SlotR ⟨K, cls, a0⟩ F H o ov s) (e : Ex F F') : SlotR ⟨K, cls, a1⟩ F' H' (fun _ => False) ov s := by
  rcases val_slot hv with ⟨d, rfl⟩ | ⟨ds, rfl⟩
  · obtain ⟨v, h1, h2, h3⟩ := h
    exact ⟨v, h1, fun _ h => h, Rep.mono e h3⟩
  · obtain ⟨h1, l, vs, h2, h3, h4⟩ := h
    exact ⟨fun _ h => h, l, vs, h2, sqL_ex e h3, h4.mono e⟩
theorem val_same {K : PySem.W.Frag} {cls : Str → Addr} {a0 a1 : Option Addr} {F H : Hp} {o : Ow} {ov : Option (Option V)} {s : Slot} (hv : isVal s = true) (h : SlotR ⟨K, cls, a0⟩ F H o ov s) : SlotR ⟨K, cls, a1⟩ F H o ov s := by
  rcases val_slot hv with ⟨d, rfl⟩ | ⟨ds, rfl⟩
  · exact h
  · exact h
theorem pin_slot {K : PySem.W.Frag} {cls : Str → Addr} {F H : Hp} {o : Ow} {ov : Option (Option V)} {s : Slot} {a0 : Option Addr} (hs : isBx s = true) (h : SlotR ⟨K, cls, none⟩ F H o ov s) (ha : ∀ a, ov = some (some (.ref a)) → a0 = some a) : SlotR ⟨K, cls, a0⟩ F H o ov (pinS s) := by
  cases s with
  | cmp c pin fds =>
    obtain ⟨a, e, hp, q⟩ := h
    exact ⟨a, e, fun _ _ => ha a e, q⟩
  | box n pin d =>
    obtain ⟨a, e, hp, q⟩ := h
    exact ⟨a, e, fun _ _ => ha a e, q⟩
  | _ => cases hs
/-- the slots as a body finds them -/
theorem start_state {K : PySem.W.Frag} {cls : Str → Addr} {F H : Hp} {N : List Str} {vs : List V} {As : List Slot} {own : Own} {a0 : Option Addr} (s : StR ⟨K, cls, none⟩ As (vs.map some) F H own) (hA : argOk As = true) (ha : ∀ a, vs.head? = some (.ref a) → a0 = some a) :
    StR ⟨K, cls, a0⟩ (startA N.length As) (start N vs) F H own := by
  have hl := s.len
  simp at hl
  have hpl : (pinA As).length = As.length := by cases As <;> rfl
  refine ⟨by simp [L2.start, startA, hpl]; omega, s.fh, fun i x h => ?_, fun i hi a z => ?_, s.free, s.there, s.disj⟩
  · unfold startA at h
    by_cases q : i < As.length
    · rw [List.getElem?_append_left (by omega)] at h
      have e0 : (start N vs)[i]? = (vs.map some)[i]? := by
        unfold L2.start
        rw [List.getElem?_append_left (by simp; omega)]
      rw [e0]
      cases As with
      | nil => simp at q
      | cons sl r =>
        cases i with
        | zero =>
          simp only [pinA, List.getElem?_cons_zero, Option.some.injEq] at h
          subst h
          have h0 := s.slot 0 sl rfl
          by_cases hb : isBx sl = true
          · refine pin_slot hb h0 fun a ea => ha a ?_
            cases vs with
            | nil => simp at ea
            | cons v vs =>
              simp only [List.map_cons, List.getElem?_cons_zero, Option.some.injEq] at ea
              simp [ea]
          · have hv : isVal sl = true := by
              simp only [argOk, Bool.and_eq_true, Bool.or_eq_true] at hA
              exact hA.1.resolve_left hb
            have e : pinS sl = sl := by
              rcases val_slot hv with ⟨d, rfl⟩ | ⟨ds, rfl⟩ <;> rfl
            rw [e]
            exact val_same hv h0
        | succ i =>
          simp only [pinA, List.getElem?_cons_succ] at h
          have h0 := s.slot (i + 1) x (by simpa using h)
          have hv : isVal x = true := by
            simp only [argOk, Bool.and_eq_true] at hA
            exact List.all_eq_true.mp hA.2 x (List.mem_of_getElem? h)
          exact val_same hv h0
    · rw [List.getElem?_append_right (by omega)] at h
      rw [List.getElem?_replicate] at h
      split at h
      · cases h
        exact fun a z => s.out i (by omega) a z
      · cases h
  · unfold startA at hi
    simp [hpl] at hi
    exact s.out i (by omega) a z
theorem step_less {F H F' H' : Hp} {own own' own'' : Own} (st : Step F H own F' H' own') (h : ∀ i a, own'' i a → ∃ j, own' j a) : Step F H own F' H' own'' :=
  ⟨st.ff, st.hh, st.nf, fun i a z => by
    obtain ⟨j, hj⟩ := h i a z
    exact st.no j a hj, st.al⟩
theorem unpin_slot {K : PySem.W.Frag} {cls : Str → Addr} {a0 : Option Addr} {F H : Hp} {o : Ow} {ov : Option (Option V)} {s : Slot} (h : SlotR ⟨K, cls, a0⟩ F H o ov s) (hs : pinned s = true) : ∃ a, a0 = some a ∧ SlotR ⟨K, cls, none⟩ F H o (some (some (.ref a))) (unpin s) := by
  cases s with
  | cmp c pin fds =>
    cases pin with
    | none => cases hs
    | some b =>
      obtain ⟨a, e, hp, q⟩ := h
      exact ⟨a, hp b rfl, a, rfl, fun b hb => (nomatch hb), q⟩
  | box n pin d =>
    cases pin with
    | none => cases hs
    | some b =>
      obtain ⟨a, e, hp, q⟩ := h
      exact ⟨a, hp b rfl, a, rfl, fun b hb => (nomatch hb), q⟩
  | _ => cases hs
/-- the arguments at the end -/
theorem end_state {K : PySem.W.Frag} {cls : Str → Addr} {a0 : Option Addr} {F H F' H' : Hp} {vs : List V} {As As' : List Slot} {Γ' : Gam} {σ' : L2.St} {own own' : Own} (s : StR ⟨K, cls, none⟩ As (vs.map some) F H own) (hA : argOk As = true) (ha : ∀ a, vs.head? = some (.ref a) → a0 = some a)
    (s' : StR ⟨K, cls, a0⟩ Γ' σ' F' H' own') (st : Step F H own F' H' own') (he : finA As Γ' = some As') : ∃ own'' : Own, StR ⟨K, cls, none⟩ As' (vs.map some) F' H' own'' ∧ Step F H own F' H' own'' ∧ ∀ i a, own'' i a → ∃ j, own' j a := by
  have hl := s.len
  simp at hl
  cases As with
  | nil =>
    cases he
    refine ⟨fun _ _ => False, ⟨s.len, s'.fh, fun i x h => by simp at h, fun _ _ _ h => h, fun _ _ h => h.elim, fun _ _ h => h.elim, fun _ _ _ h _ => h.elim⟩, step_less st fun _ _ h => h.elim, fun _ _ h => h.elim⟩
  | cons sl r =>
    have hr : ∀ i x, r[i]? = some x → SlotR ⟨K, cls, none⟩ F' H' (fun _ => False) (vs.map some)[i + 1]? x := fun i x h => by
      have h0 := s.slot (i + 1) x (by simpa using h)
      have hv : isVal x = true := by
        simp only [argOk, Bool.and_eq_true] at hA
        exact List.all_eq_true.mp hA.2 x (List.mem_of_getElem? h)
      exact val_keep hv h0 st.ff
    simp only [finA] at he
    by_cases hb : isBx sl = true
    · rw [if_pos hb] at he
      cases Γ' with
      | nil => cases he
      | cons t Γ' =>
        simp only at he
        by_cases hp : pinned t = true
        · rw [if_pos hp] at he
          cases he
          obtain ⟨a, e1, e2⟩ := unpin_slot (s'.slot 0 t rfl) hp
          obtain ⟨a', e3⟩ : ∃ a', (vs.map some)[0]? = some (some (.ref a')) := by
            have h0 := s.slot 0 sl rfl
            cases sl with
            | cmp c pin fds =>
              obtain ⟨a', e, _⟩ := h0
              exact ⟨a', e⟩
            | box c pin fds =>
              obtain ⟨a', e, _⟩ := h0
              exact ⟨a', e⟩
            | _ => cases hb
          have e4 : a0 = some a' := ha a' (by
            cases vs with
            | nil => simp at e3
            | cons v vs =>
              simp only [List.map_cons, List.getElem?_cons_zero, Option.some.injEq] at e3
              simp [e3])
          rw [e1] at e4
          cases e4
          refine ⟨fun k b => k = 0 ∧ own' 0 b, ⟨by simp; simp at hl; omega, s'.fh, fun i x h => ?_, fun i hi a q => ?_, fun i a q => s'.free 0 a q.2, fun i a q => s'.there 0 a q.2, fun i j a q1 q2 => by rw [q1.1, q2.1]⟩, step_less st fun i a q => ⟨0, q.2⟩, fun i a q => ⟨0, q.2⟩⟩
          · cases i with
            | zero =>
              simp only [List.getElem?_cons_zero, Option.some.injEq] at h
              subst h
              have e0 : (fun b => (0 : Nat) = 0 ∧ own' 0 b) = own' 0 := by
                funext b
                simp
              rw [e0, e3]
              exact e2
            | succ i =>
              have e0 : (fun b => i + 1 = 0 ∧ own' 0 b) = fun _ => False := by
                funext b
                simp
              rw [e0]
              exact hr i x (by simpa using h)
          · obtain ⟨rfl, _⟩ := q
            simp at hi
        · rw [if_neg hp] at he
          cases he
    · rw [if_neg hb] at he
      cases he
      have hv : isVal sl = true := by
        simp only [argOk, Bool.and_eq_true, Bool.or_eq_true] at hA
        exact hA.1.resolve_left hb
      refine ⟨fun _ _ => False, ⟨s.len, s'.fh, fun i x h => ?_, fun _ _ _ h => h, fun _ _ h => h.elim, fun _ _ h => h.elim, fun _ _ _ h _ => h.elim⟩, step_less st fun _ _ h => h.elim, fun _ _ h => h.elim⟩
      cases i with
      | zero =>
        cases h
        exact val_keep hv (s.slot 0 _ rfl) st.ff
      | succ i => exact hr i x (by simpa using h)
section
variable {P : Program} {w : World} {K : PySem.W.Frag} {cls : Str → Addr} {mg : Str → Option Value} {base : Heap} {x qual : Str} {params : Arguments} {body : List Stmt} {scope : Scope} {f : Addr} {fd : FuncData} {N ps : List Str} {k : Nat}
/-- THE RULE of a def -/
theorem fn_G {m : Gam → RS} (F : FunD K x qual params body scope [] [] f fd) (S : FnScope N ps scope)
    (hbody : ∀ (cdv : Value) (A : Around) (outer : List Env) (s : Shared) (H : Hp) (E : XK) (a0 : Option Addr), Room k (A.deeper (envOfC qual scope s.heap.objs.size f cdv)) →
      PSs (cxOf (L2.CX P w) P w K mg base N qual scope f cdv A outer s H E) body (tS ⟨K, cls, a0⟩ E m)) : FnOk P w K mg base (L2.CX P w) (k + 1) f fd ps (spG ⟨K, cls, none⟩ (gOf ps.length N.length m)) := by
  refine F.ok S gOf_len fun cdv A outer s H vs Q E hr h => ?_
  obtain ⟨As, Fh, own, st, p⟩ := h
  unfold gOf at p
  by_cases hc : As.length = ps.length ∧ argOk As = true
  · rw [if_pos hc] at p
    refine ⟨_, hbody cdv A outer s H E (match vs.head? with | some (.ref a) => some a | _ => none) hr, ?_⟩
    have ha : ∀ a, vs.head? = some (.ref a) → (match vs.head? with | some (.ref a) => some a | _ => (none : Option Addr)) = some a := fun a e => by rw [e]
    refine ⟨_, Fh, own, start_state (N := N) st hc.2 ha, ?_⟩
    cases em : m (startA N.length As) with
    | stuck =>
      rw [em] at p
      exact p.elim
    | bk Γ' =>
      rw [em] at p
      exact p.elim
    | ct Γ' =>
      rw [em] at p
      exact p.elim
    | nx Γ' =>
      rw [em] at p
      simp only [outG] at p
      cases ef : finA As Γ' with
      | none =>
        rw [ef] at p
        exact p.elim
      | some As' =>
        rw [ef] at p
        intro σ' F' H' own' s1 s2
        obtain ⟨own'', s3, s4, _⟩ := end_state st hc.2 ha s1 s2 ef
        exact p .non F' H' own'' s3 s4 .non
    | err y Γ' =>
      rw [em] at p
      simp only [outG] at p
      cases ef : finA As Γ' with
      | none =>
        rw [ef] at p
        exact p.elim
      | some As' =>
        rw [ef] at p
        intro σ' F' H' own' dd w s1 s2 h1 h2
        obtain ⟨own'', s3, s4, _⟩ := end_state st hc.2 ha s1 s2 ef
        exact p F' H' own'' dd w s3 s4 h1 h2
    | rt v Γ' =>
      rw [em] at p
      simp only [outG] at p
      by_cases ho : outV v = true
      · rw [if_pos ho] at p
        cases ef : finA As Γ' with
        | none =>
          rw [ef] at p
          exact p.elim
        | some As' =>
          rw [ef] at p
          intro x σ' F' H' own' s1 s2 rv
          obtain ⟨own'', s3, s4, s5⟩ := end_state st hc.2 ha s1 s2 ef
          refine p x F' H' own'' s3 s4 ?_
          have nw : ∀ {o}, New H F' H' own' o → New H F' H' own'' o := fun n a ha => ⟨(n a ha).1, (n a ha).2.1, fun i hi => by
            obtain ⟨j, hj⟩ := s5 i a hi
            exact (n a ha).2.2.1 j hj, (n a ha).2.2.2⟩
          cases v with
          | f d => exact rv
          | b i => cases ho
          | n f =>
            obtain ⟨o, h1, h2⟩ := rv
            refine ⟨o, ?_, nw h2⟩
            cases f <;> exact h1
          | nc c f =>
            obtain ⟨a, o, h0, h1, h2⟩ := rv
            exact ⟨a, o, h0, h1, nw h2⟩
          | nb n f =>
            obtain ⟨a, o, h0, h1, h2⟩ := rv
            exact ⟨a, o, h0, h1, nw h2⟩
      · rw [if_neg ho] at p
        exact p.elim
  · rw [if_neg hc] at p
    exact p.elim
end
section
variable {P : Program} {w : World} {K : PySem.W.Frag} {cls : Str → Addr} {mg : Str → Option Value} {base : Heap} {x qual : Str} {params : Arguments} {body : List Stmt} {scope : Scope} {f : Addr} {fd : FuncData}
theorem fn_H (N ps : List Str) (np nl k : Nat) (m : Gam → RS) (hp : ps.length = np) (hn : N.length = nl) (F : FunD K x qual params body scope [] [] f fd) (S : FnScope N ps scope)
    (hbody : ∀ (cdv : Value) (A : Around) (outer : List Env) (s : Shared) (H : Hp) (E : XK) (a0 : Option Addr), Room k (A.deeper (envOfC qual scope s.heap.objs.size f cdv)) →
      PSs (cxOf (L2.CX P w) P w K mg base N qual scope f cdv A outer s H E) body (tS ⟨K, cls, a0⟩ E m)) : FnOk P w K mg base (L2.CX P w) (k + 1) f fd ps (spG ⟨K, cls, none⟩ (gOf np nl m)) := by
  subst hp hn
  exact fn_G F S hbody
end
/-! ### what a caller takes of a def -/
def FnC (P : Program) (w : World) (K : PySem.W.Frag) (mg : Str → Option Value) (base : Heap) (cls : Str → Addr) (x : Str) (k : Nat) (g : List Slot → R Val) : Prop :=
  ∃ f fd ps, FnOk P w K mg base (L2.CX P w) k f fd ps (spG ⟨K, cls, none⟩ g) ∧ mg x = some (.ref f) ∧ PySem.W.keepIn K (.ref f) = true ∧ Binds K fd ps []
section
variable {X : Cx} {cls : Str → Addr} {a0 : Option Addr} {E : XK} {e : Expr} {es : List Expr} {ms : Gam → R (List Val)} {p pos : Pos} {x : Str} {k : Nat} {g : List Slot → R Val}
theorem e_callC (C : FnC X.prog X.w X.K X.mg X.base cls x k g) (hr : Room k X.A) (hg : Gl X x) (hx : Passes (L2.CX X.prog X.w) X E) (ha : PA X (e :: es) (tA ⟨X.K, cls, a0⟩ E ms)) (hdb : (x == ("__debug__" : Str)) = false := by decide)
    (he : starEach (e :: es) X.env = (false, eval e X.env) :: starEach es X.env := by rfl) (hpl : (backTo pos (starEach es X.env)).any (·.1) = false := by rfl) : PE X (.Call (.Name x p) (e :: es) [] pos) (tE ⟨X.K, cls, a0⟩ E (callM (callG g) ms)) := by
  obtain ⟨f, fd, ps, F, hm, hk, hb⟩ := C
  exact e_call (M := ⟨X.K, cls, a0⟩) F hr hg hm hk hb hx ha hdb he hpl
theorem pxE {P : Program} {w : World} {K : PySem.W.Frag} {mg : Str → Option Value} {base : Heap} {N : List Str} {qual : Str} {scope : Scope} {f : Addr} {cd : Value} {A : Around} {outer : List Env} {s : Shared} {H : Hp} {E : XK} :
    Passes (L2.CX P w) (cxOf (L2.CX P w) P w K mg base N qual scope f cd A outer s H E) E := passes_call (takes_of rfl rfl rfl rfl) fun _ _ _ _ h => h
end
theorem ownE {P : Program} {w : World} {K : PySem.W.Frag} {mg : Str → Option Value} {base : Heap} {N : List Str} {qual : Str} {scope : Scope} {f : Addr} {cd : Value} {A : Around} {outer : List Env} {s : Shared} {H : Hp} {E : XK} :
    PassesOwn (model (cxOf (L2.CX P w) P w K mg base N qual scope f cd A outer s H E).prog (cxOf (L2.CX P w) P w K mg base N qual scope f cd A outer s H E).w) (cxOf (L2.CX P w) P w K mg base N qual scope f cd A outer s H E).A (cxOf (L2.CX P w) P w K mg base N qual scope f cd A outer s H E).env (cxOf (L2.CX P w) P w K mg base N qual scope f cd A outer s H E).xe := passes_of rfl
abbrev GC (mg : Str → Option Value) (x : Str) (v : V) : Prop := ∃ u, mg x = some u ∧ RelV v u
abbrev FnP (K : PySem.W.Frag) (x qual : Str) (st : Stmt) (f : Addr) (fd : FuncData) : Prop := FunD K x qual (defArgs st) (defBody st) (defScope st) [] [] f fd
/-! ### methods, classes: what a caller takes -/
def MetC (P : Program) (w : World) (K : PySem.W.Frag) (mg : Str → Option Value) (base : Heap) (cls : Str → Addr) (c name : Str) (k : Nat) (g : List Slot → R Val) : Prop :=
  ∃ f fd ps, Cls K (cls c) ∧ Meth K (cls c) name f ∧ FnOk P w K mg base (L2.CX P w) k f fd ps (spG ⟨K, cls, none⟩ g) ∧ Binds K fd ps []
def MkC (P : Program) (w : World) (K : PySem.W.Frag) (mg : Str → Option Value) (base : Heap) (cls : Str → Addr) (c : Str) (k : Nat) (g : List Slot → R Val) : Prop :=
  ∃ f fd ps, mg c = some (.ref (cls c)) ∧ Mk K (cls c) f ∧ FnOk P w K mg base (L2.CX P w) k f fd ps (spG ⟨K, cls, none⟩ g) ∧ Binds K fd ps []
section
variable {X : Cx} {cls : Str → Addr} {a0 : Option Addr} {E : XK} {e o : Expr} {es : List Expr} {mo : Gam → R Val} {ms : Gam → R (List Val)} {p pos apos : Pos} {x c name : Str} {k : Nat} {g : List Slot → R Val}
theorem e_call0C (C : FnC X.prog X.w X.K X.mg X.base cls x k g) (hr : Room k X.A) (hg : Gl X x) (hx : Passes (L2.CX X.prog X.w) X E) (hdb : (x == ("__debug__" : Str)) = false := by decide) : PE X (.Call (.Name x p) [] [] pos) (tE ⟨X.K, cls, a0⟩ E (fun Γ => callG g Γ [])) := by
  obtain ⟨f, fd, ps, F, hm, hk, hb⟩ := C
  exact e_call0 (M := ⟨X.K, cls, a0⟩) F hr hg hm hk hb hx hdb
theorem e_methC {pl : Sem Bool} (C : MetC X.prog X.w X.K X.mg X.base cls c name k g) (he : PE X o (tE ⟨X.K, cls, a0⟩ E mo)) (hr : Room k X.A) (hx : Passes (L2.CX X.prog X.w) X E) (ha : PA X (e :: es) (tA ⟨X.K, cls, a0⟩ E ms))
    (hst : starEach (e :: es) X.env = (false, eval e X.env) :: starEach es X.env := by rfl) (hpl : (backTo pos (starEach es X.env)).any (·.1) = false := by rfl)
    (ht : eval (.Call (.Attribute o name apos) (e :: es) [] pos) X.env = (do
      let ov ← eval o X.env
      standAt apos.atName
      let (f, first) ← holding [ov] (getMethod ov name pl)
      callWith pos f first (backTo pos (starEach (e :: es) X.env)) (backToKw pos (keywordEach [] X.env))) := by rfl) :
    PE X (.Call (.Attribute o name apos) (e :: es) [] pos) (tE ⟨X.K, cls, a0⟩ E (methM c name g mo ms)) := by
  obtain ⟨f, fd, ps, h1, h2, F, hb⟩ := C
  exact e_meth (M := ⟨X.K, cls, a0⟩) he h1 h2 F hr hb hx ha hst hpl ht
theorem e_meth0C {pl : Sem Bool} (C : MetC X.prog X.w X.K X.mg X.base cls c name k g) (he : PE X o (tE ⟨X.K, cls, a0⟩ E mo)) (hr : Room k X.A) (hx : Passes (L2.CX X.prog X.w) X E)
    (ht : eval (.Call (.Attribute o name apos) [] [] pos) X.env = (do
      let ov ← eval o X.env
      standAt apos.atName
      let (f, first) ← holding [ov] (getMethod ov name pl)
      callWith pos f first (backTo pos (starEach [] X.env)) (backToKw pos (keywordEach [] X.env))) := by rfl) :
    PE X (.Call (.Attribute o name apos) [] [] pos) (tE ⟨X.K, cls, a0⟩ E (methM c name g mo nilA)) := by
  obtain ⟨f, fd, ps, h1, h2, F, hb⟩ := C
  exact e_meth0 (M := ⟨X.K, cls, a0⟩) he h1 h2 F hr hb hx ht
theorem e_makeC (C : MkC X.prog X.w X.K X.mg X.base cls c k g) (hr : Room (k + 1) X.A) (hg : Gl X c) (hx : Passes (L2.CX X.prog X.w) X E) (ha : PA X (e :: es) (tA ⟨X.K, cls, a0⟩ E ms)) (hdb : (c == ("__debug__" : Str)) = false := by decide)
    (he : starEach (e :: es) X.env = (false, eval e X.env) :: starEach es X.env := by rfl) (hpl : (backTo pos (starEach es X.env)).any (·.1) = false := by rfl) : PE X (.Call (.Name c p) (e :: es) [] pos) (tE ⟨X.K, cls, a0⟩ E (callM (makeV c g) ms)) := by
  obtain ⟨f, fd, ps, hm, h1, F, hb⟩ := C
  exact e_make (M := ⟨X.K, cls, a0⟩) h1 F hr hg hm hb hx ha hdb he hpl
theorem e_make0C (C : MkC X.prog X.w X.K X.mg X.base cls c k g) (hr : Room (k + 1) X.A) (hg : Gl X c) (hx : Passes (L2.CX X.prog X.w) X E) (hdb : (c == ("__debug__" : Str)) = false := by decide) : PE X (.Call (.Name c p) [] [] pos) (tE ⟨X.K, cls, a0⟩ E (fun Γ => makeV c g Γ [])) := by
  obtain ⟨f, fd, ps, hm, h1, F, hb⟩ := C
  exact e_make0 (M := ⟨X.K, cls, a0⟩) h1 F hr hg hm hb hx hdb
end
/-! ### len -/
def lenF (Γ : Gam) (vs : List Val) : R Val := match vs with
  | [v] => match viewD Γ v with
    | some (.str z) => if z.length ≤ sizeLine then .ok (.f (.int (z.length : Int))) Γ else .stuck
    | some (.list ds) => .ok (.f (.int (ds.length : Int))) Γ
    | some (.tuple ds) => .ok (.f (.int (ds.length : Int))) Γ
    | _ => .stuck
  | _ => .stuck
abbrev rLenA (K : PySem.W.Frag) : List V → Hp → VK → Prop := fun xs H Q => ∃ x n, xs = [x] ∧ LenV K x H n ∧ Q (.int n) H
theorem cs_len {M : Pm} : CallS M (rLenA M.K) lenF := by
  intro E Γ σ F0 H0 own0 F H own xs as Q s st r p
  unfold lenF at p
  split at p
  · cases r with
    | cons r1 r2 =>
      cases r2
      split at p
      · rename_i z hv
        split at p
        · rename_i hz
          have := view_str s r1 hv
          subst this
          exact ⟨_, _, rfl, ⟨hz, rfl⟩, post_now s st p (.int _)⟩
        · exact p.elim
      · rename_i ds hv
        obtain ⟨l, vs, rfl, h1, h2⟩ := view_list s r1 hv
        exact ⟨_, _, rfl, .inl ⟨vs, h1, rfl⟩, by rw [h2.length]; exact post_now s st p (.int _)⟩
      · rename_i ds hv
        obtain ⟨l, vs, rfl, _, h1, h2⟩ := view_tup s r1 hv
        exact ⟨_, _, rfl, .inr ⟨vs, h1, rfl⟩, by rw [h2.length]; exact post_now s st p (.int _)⟩
      · exact p.elim
  · exact p.elim
/-! ### isinstance -/
inductive TyN where
  | non | bl | int | str | lst | tup | dic | cls (c : Str)
  deriving DecidableEq
def tyD : D → TyN
  | .none => .non
  | .bool _ => .bl
  | .int _ => .int
  | .str _ => .str
  | .list _ => .lst
  | .tuple _ => .tup
  | .dict ((.none, .str c) :: _) => .cls c
  | .dict ((.none, .int 2) :: _) => .cls ""
  | .dict _ => .dic
def isTyB (T : TyN) (t : TyN) : Option Bool := match T, t with
  | _, .cls _ => none
  | .int, .bl => some true
  | T, t => some (decide (T = t))
def tyName : TyN → String
  | .non => "NoneType"
  | .bl => "bool"
  | .int => "int"
  | .str => "str"
  | .lst => "list"
  | .tup => "tuple"
  | .dic => "dict"
  | .cls _ => ""
theorem kit_of_ty {K : PySem.W.Frag} {T t : TyN} {b : Bool} (hT : T = .bl ∨ T = .int ∨ T = .str ∨ T = .lst ∨ T = .tup ∨ T = .dic) (h : isTyB T t = some b) : PySem.W.kitOne K (.type (tyName t)) (.type (tyName T)) = some b := by
  rcases hT with rfl | rfl | rfl | rfl | rfl | rfl <;> cases t <;> simp [isTyB] at h <;> subst h <;> exact kit_ty (by decide +kernel)
theorem rep_ty {M : Pm} {F H : Hp} {v : V} {d : D} (fh : Ex F H) (r : Rep M.cls F v d) (hn : ∀ c, tyD d ≠ .cls c) : TyX M.K H v (.type (tyName (tyD d))) := by
  cases r with
  | non => exact .base .non
  | bl b => exact .base (.bl b)
  | int i => exact .base (.int i)
  | str x => exact .base (.str x)
  | lst h _ => exact .base (.lst (fh _ _ h))
  | tup h _ => exact .base (.tup (fh _ _ h))
  | dcF h _ _ => exact .fDict (fh _ _ h)
  | kn h _ _ _ => exact absurd rfl (hn _)
  | tupF h _ _ => exact .fTuple (fh _ _ h)
  | dcK h _ _ => exact .base (.dK (fh _ _ h))
  | dcT h _ _ => exact .base (.dT (fh _ _ h))
  | ins h _ _ => exact absurd rfl (hn _)
end DL
end

section
set_option Elab.async false
set_option linter.all false
set_option maxRecDepth 100000
set_option maxHeartbeats 1000000
/-! DL12: built-ins. -/
namespace DL
open PySem PySem.Spec PyProof.Rows L2

/-! ### isinstance -/
def tyV (Γ : Gam) : Val → Option TyN
  | .f d => some (tyD d)
  | .b i => match Γ[i]? with
    | some (.one (.fz d)) => some (tyD d)
    | some (.one (.ol _)) => some .lst
    | some (.one (.oK _)) => some .dic
    | some (.one (.oT _)) => some .dic
    | _ => none
  | _ => none
theorem tyD_dicK (k : List (Key × D)) : tyD (dicK k) = .dic := rfl
theorem tyD_dicT (k : List (List Key × D)) : tyD (dicT k) = .dic := rfl
theorem ty_ok {M : Pm} {Γ : Gam} {σ : L2.St} {F H : Hp} {own : Own} {x : V} {a : Val} {t : TyN} (s : StR M Γ σ F H own) (r : ValRd M σ F x a) (h : tyV Γ a = some t) (hn : ∀ c, t ≠ .cls c) : TyX M.K H x (.type (tyName t)) := by
  cases a with
  | f d =>
    cases h
    exact rep_ty s.fh r hn
  | b i =>
    have h' : σ[i]? = some (some x) := r
    simp only [tyV] at h
    split at h
    · rename_i d e
      cases h
      obtain ⟨v, h1, _, h2⟩ := s.slot i _ e
      rw [h'] at h1
      cases h1
      exact rep_ty s.fh h2 hn
    · rename_i d e
      cases h
      obtain ⟨v, h1, l, vs, rfl, _, h2, _⟩ := s.slot i _ e
      rw [h'] at h1
      cases h1
      exact .base (.lst h2)
    · rename_i d e
      cases h
      obtain ⟨v, h1, l, vs, rfl, _, h2, _⟩ := s.slot i _ e
      rw [h'] at h1
      cases h1
      exact .base (.dK h2)
    · rename_i d e
      cases h
      obtain ⟨v, h1, l, vs, rfl, _, h2, _⟩ := s.slot i _ e
      rw [h'] at h1
      cases h1
      exact .base (.dT h2)
    · cases h
  | _ => cases h
def tyOk : TyN → Bool
  | .non => false
  | .cls _ => false
  | _ => true
def isTyF (T : TyN) (Γ : Gam) (v : Val) : R Val := match tyV Γ v with
  | some t => match isTyB T t with
    | some b => .ok (.f (.bool b)) Γ
    | none => .stuck
  | none => .stuck
def isTyM (T : TyN) (m : Gam → R Val) : Gam → R Val := fun Γ => (rd m Γ).bind fun v Γ1 => isTyF T Γ1 v
section
variable {X : Cx} {M : Pm} {E : XK} {e c : Expr} {es : List Expr} {m : Gam → R Val} {p p2 p3 pos : Pos}
theorem pe_tyName {n : String} (hg : Gl X (n : String)) (hm : X.mg n = none) (hv : bootBuiltins n = some (.type n)) (hn : (n : Str) ≠ "__name__" := by decide) (hdb : ((n : Str) == ("__debug__" : Str)) = false := by decide) : PE X (.Name n p) (tC (.ty n)) :=
  pe_bltn hg hm hv (show RelV (.ty n) (.type n) from rfl) hn hdb
theorem isTyB_cls {T t : TyN} {b : Bool} (h : isTyB T t = some b) : ∀ c, t ≠ .cls c := by
  rintro c rfl
  cases T <;> simp [isTyB] at h
theorem tyOk_or {T : TyN} (h : tyOk T = true) : T = .bl ∨ T = .int ∨ T = .str ∨ T = .lst ∨ T = .tup ∨ T = .dic := by cases T <;> simp [tyOk] at h ⊢
/-- isinstance(e, T), T built-in -/
theorem e_isi (T : TyN) (hK : X.K = M.K) (hT : tyOk T = true) (hg : Gl X "isinstance") (hm : X.mg "isinstance" = none) (he : PE X e (tE M E m)) (hc : PE X c (tC (.ty (tyName T))))
    (h1 : starEach [e, c] X.env = (false, eval e X.env) :: starEach [c] X.env := by rfl) (h2 : starEach [c] X.env = (false, eval c X.env) :: starEach [] X.env := by rfl) (hpl : (backTo pos (starEach [c] X.env)).any (·.1) = false := by rfl) :
    PE X (.Call (.Name "isinstance" p) [e, c] [] pos) (tE M E (isTyM T m)) :=
  PE_weak (pe_callB call_isi hg hm (by kernel_rfl) (pa_cons (pe_rd he) (pa_cons hc pa_nil h2) h1) (by decide) (by decide) h1 hpl) fun σ H Q q => by
    obtain ⟨Γ, F, own, st, q⟩ := q
    refine ⟨Γ, F, own, st, post_bind q fun F1 H1 own1 Γ1 x a _ st1 s1 r1 p1 => ?_⟩
    unfold isTyF at p1
    split at p1
    · rename_i t ht
      split at p1
      · rename_i b hb
        have hn := isTyB_cls hb
        refine ⟨x, _, .type (tyName t), .type (tyName T), b, rfl, .ty _, ?_, kit_of_ty (tyOk_or hT) hb, post_now st1 s1 p1 (.bl _)⟩
        rw [hK]
        exact ty_ok st1 r1 ht hn
      · exact p1.elim
    · exact p1.elim
end

/-! ### built-ins by values -/
def intsOf : List D → Option (List Int)
  | [] => some []
  | .int i :: r => match intsOf r with
    | some ns => some (i :: ns)
    | none => none
  | _ => none
def boolsOf : List D → Option (List Bool)
  | [] => some []
  | .bool i :: r => match boolsOf r with
    | some ns => some (i :: ns)
    | none => none
  | _ => none
theorem intsOf_ok {cls : Str → Addr} {F : Hp} : ∀ {vs : List V} {ds : List D} {ns : List Int}, RepAll cls F vs ds → intsOf ds = some ns → vs = ns.map V.int
  | _, _, _, .nil, h => by
    cases h
    rfl
  | _, d :: _, ns, .cons h r, e => by
    cases d with
    | int i =>
      simp only [intsOf] at e
      split at e
      · rename_i ns' e'
        cases e
        cases h
        rw [intsOf_ok r e']
        rfl
      · cases e
    | _ => cases e
theorem boolsOf_ok {cls : Str → Addr} {F : Hp} : ∀ {vs : List V} {ds : List D} {ns : List Bool}, RepAll cls F vs ds → boolsOf ds = some ns → vs = ns.map V.bl
  | _, _, _, .nil, h => by
    cases h
    rfl
  | _, d :: _, ns, .cons h r, e => by
    cases d with
    | bool i =>
      simp only [boolsOf] at e
      split at e
      · rename_i ns' e'
        cases e
        cases h
        rw [boolsOf_ok r e']
        rfl
      · cases e
    | _ => cases e
def sumF (Γ : Gam) (vs : List Val) : R Val := match vs with
  | [v] => match viewD Γ v with
    | some (.list ds) => match intsOf ds with
      | some ns => .ok (.f (.int ns.sum)) Γ
      | none => .stuck
    | _ => .stuck
  | _ => .stuck
theorem cs_sum {M : Pm} : CallS M (rSum M.K) sumF := by
  intro E Γ σ F0 H0 own0 F H own xs as Q s st r p
  unfold sumF at p
  split at p
  · cases r with
    | cons r1 r2 =>
      cases r2
      split at p
      · rename_i ds hv
        split at p
        · rename_i ns hn
          obtain ⟨l, vs, rfl, h1, h2⟩ := view_list s r1 hv
          have := intsOf_ok h2 hn
          subst this
          exact ⟨_, _, rfl, h1, post_now s st p (.int _)⟩
        · exact p.elim
      · exact p.elim
  · exact p.elim
def maxL : Int → List Int → Int
  | m, [] => m
  | m, n :: r => maxL (if m < n then n else m) r
theorem maxL_mem : ∀ (m : Int) (r : List Int), maxL m r ∈ m :: r
  | m, [] => by simp [maxL]
  | m, n :: r => by
    have := maxL_mem (if m < n then n else m) r
    unfold maxL
    split at this <;> rename_i h <;> simp only [h, if_true, if_false] <;> simp at this ⊢ <;> rcases this with h | h <;> simp [h]
theorem maxL_le : ∀ (m : Int) (r : List Int) (y : Int), y ∈ m :: r → y ≤ maxL m r
  | m, [], y, h => by
    simp at h
    simp [maxL, h]
  | m, n :: r, y, h => by
    unfold maxL
    have ih := maxL_le (if m < n then n else m) r
    simp only [List.mem_cons] at h ih
    by_cases c : m < n
    · simp only [c, if_true] at ih ⊢
      rcases h with h | h | h
      · have := ih n (.inl rfl)
        omega
      · exact ih y (.inl h)
      · exact ih y (.inr h)
    · simp only [c, if_false] at ih ⊢
      rcases h with h | h | h
      · exact ih y (.inl h)
      · have := ih m (.inl rfl)
        omega
      · exact ih y (.inr h)
def maxF (Γ : Gam) (vs : List Val) : R Val := match vs with
  | [v] => match viewD Γ v with
    | some (.list ds) => match intsOf ds with
      | some (n :: ns) => .ok (.f (.int (maxL n ns))) Γ
      | _ => .stuck
    | _ => .stuck
  | _ => .stuck
theorem cs_max {M : Pm} : CallS M (rMax M.K) maxF := by
  intro E Γ σ F0 H0 own0 F H own xs as Q s st r p
  unfold maxF at p
  split at p
  · cases r with
    | cons r1 r2 =>
      cases r2
      split at p
      · rename_i ds hv
        split at p
        · rename_i n ns hn
          obtain ⟨l, vs, rfl, h1, h2⟩ := view_list s r1 hv
          have := intsOf_ok h2 hn
          subst this
          refine ⟨_, _, rfl, h1, by simp, fun m hm hy => ?_⟩
          have e : m = maxL n ns := Int.le_antisymm (maxL_le _ _ _ hm) (hy _ (maxL_mem _ _))
          subst e
          exact post_now s st p (.int _)
        · exact p.elim
      · exact p.elim
  · exact p.elim
abbrev rMin2 : List V → Hp → VK → Prop := fun xs H Q => ∃ i j, xs = [.int i, .int j] ∧ Q (.int (if j < i then j else i)) H
abbrev rMax2 : List V → Hp → VK → Prop := fun xs H Q => ∃ i j, xs = [.int i, .int j] ∧ Q (.int (if j > i then j else i)) H
def min2F (Γ : Gam) (vs : List Val) : R Val := match vs with
  | [.f (.int i), .f (.int j)] => .ok (.f (.int (if j < i then j else i))) Γ
  | _ => .stuck
def max2F (Γ : Gam) (vs : List Val) : R Val := match vs with
  | [.f (.int i), .f (.int j)] => .ok (.f (.int (if j > i then j else i))) Γ
  | _ => .stuck
theorem cs_min2 {M : Pm} : CallS M rMin2 min2F := by
  intro E Γ σ F0 H0 own0 F H own xs as Q s st r p
  unfold min2F at p
  split at p
  · cases r with
    | cons r1 r2 =>
      cases r2 with
      | cons r2 r3 =>
        cases r3
        cases r1
        cases r2
        exact ⟨_, _, rfl, post_now s st p (.int _)⟩
  · exact p.elim
theorem cs_max2 {M : Pm} : CallS M rMax2 max2F := by
  intro E Γ σ F0 H0 own0 F H own xs as Q s st r p
  unfold max2F at p
  split at p
  · cases r with
    | cons r1 r2 =>
      cases r2 with
      | cons r2 r3 =>
        cases r3
        cases r1
        cases r2
        exact ⟨_, _, rfl, post_now s st p (.int _)⟩
  · exact p.elim
def allF (Γ : Gam) (vs : List Val) : R Val := match vs with
  | [v] => match viewD Γ v with
    | some (.list ds) => match boolsOf ds with
      | some bs => .ok (.f (.bool (bs.all id))) Γ
      | none => .stuck
    | _ => .stuck
  | _ => .stuck
def anyF (Γ : Gam) (vs : List Val) : R Val := match vs with
  | [v] => match viewD Γ v with
    | some (.list ds) => match boolsOf ds with
      | some bs => .ok (.f (.bool (bs.any id))) Γ
      | none => .stuck
    | _ => .stuck
  | _ => .stuck
theorem cs_all {M : Pm} : CallS M (rAll M.K) allF := by
  intro E Γ σ F0 H0 own0 F H own xs as Q s st r p
  unfold allF at p
  split at p
  · cases r with
    | cons r1 r2 =>
      cases r2
      split at p
      · rename_i ds hv
        split at p
        · rename_i ns hn
          obtain ⟨l, vs, rfl, h1, h2⟩ := view_list s r1 hv
          have := boolsOf_ok h2 hn
          subst this
          exact ⟨_, _, rfl, h1, post_now s st p (.bl _)⟩
        · exact p.elim
      · exact p.elim
  · exact p.elim
theorem cs_any {M : Pm} : CallS M (rAny M.K) anyF := by
  intro E Γ σ F0 H0 own0 F H own xs as Q s st r p
  unfold anyF at p
  split at p
  · cases r with
    | cons r1 r2 =>
      cases r2
      split at p
      · rename_i ds hv
        split at p
        · rename_i ns hn
          obtain ⟨l, vs, rfl, h1, h2⟩ := view_list s r1 hv
          have := boolsOf_ok h2 hn
          subst this
          exact ⟨_, _, rfl, h1, post_now s st p (.bl _)⟩
        · exact p.elim
      · exact p.elim
  · exact p.elim
def int1F (Γ : Gam) (vs : List Val) : R Val := match vs with
  | [.f (.int i)] => .ok (.f (.int i)) Γ
  | [.f (.bool b)] => .ok (.f (.int (if b then 1 else 0))) Γ
  | _ => .stuck
abbrev rInt1 : List V → Hp → VK → Prop := fun xs H Q => (∃ i, xs = [.int i] ∧ Q (.int i) H) ∨ ∃ k, xs = [.bl k] ∧ Q (.int (if k then 1 else 0)) H
theorem cs_int1 {M : Pm} : CallS M rInt1 int1F := by
  intro E Γ σ F0 H0 own0 F H own xs as Q s st r p
  unfold int1F at p
  split at p
  · cases r with
    | cons r1 r2 =>
      cases r2
      cases r1
      exact .inl ⟨_, rfl, post_now s st p (.int _)⟩
  · cases r with
    | cons r1 r2 =>
      cases r2
      cases r1
      exact .inr ⟨_, rfl, post_now s st p (.int _)⟩
  · exact p.elim
abbrev rListA (K : PySem.W.Frag) : List V → Hp → VK → Prop := fun xs H Q => ∃ p ys, xs = [.ref p] ∧ (SqL K H p ys ∨ SqT K H p ys) ∧ ∀ l, H l = none → Q (.ref l) (upd H l (.lst ys))
def listF (Γ : Gam) (vs : List Val) : R Val := match vs with
  | [v] => match viewD Γ v with
    | some (.list ds) => .ok (.n (.ol ds)) Γ
    | some (.tuple ds) => .ok (.n (.ol ds)) Γ
    | _ => .stuck
  | _ => .stuck
theorem cs_list {M : Pm} : CallS M (rListA M.K) listF := by
  intro E Γ σ F0 H0 own0 F H own xs as Q s st r p
  unfold listF at p
  split at p
  · cases r with
    | cons r1 r2 =>
      cases r2
      split at p
      · rename_i ds hv
        obtain ⟨l, vs, rfl, h1, h2⟩ := view_list s r1 hv
        exact ⟨_, _, rfl, .inl h1, fun q hq => post_newL s st p hq h2⟩
      · rename_i ds hv
        obtain ⟨l, vs, rfl, _, h1, h2⟩ := view_tup s r1 hv
        exact ⟨_, _, rfl, .inr h1, fun q hq => post_newL s st p hq h2⟩
      · exact p.elim
  · exact p.elim
abbrev rTupA (K : PySem.W.Frag) : List V → Hp → VK → Prop := fun xs H Q => ∃ p ys, xs = [.ref p] ∧ ((SqL K H p ys ∧ ∀ l, H l = none → Q (.ref l) (upd H l (.tup ys))) ∨ (SqT K H p ys ∧ Q (.ref p) H))
def tupF (Γ : Gam) (vs : List Val) : R Val := match vs with
  | [v] => match viewD Γ v with
    | some (.list ds) => .ok (.f (.tuple ds)) Γ
    | some (.tuple ds) => .ok (.f (.tuple ds)) Γ
    | _ => .stuck
  | _ => .stuck
theorem cs_tup {M : Pm} : CallS M (rTupA M.K) tupF := by
  intro E Γ σ F0 H0 own0 F H own xs as Q s st r p
  unfold tupF at p
  split at p
  · cases r with
    | cons r1 r2 =>
      cases r2
      split at p
      · rename_i ds hv
        obtain ⟨l, vs, rfl, h1, h2⟩ := view_list s r1 hv
        exact ⟨_, _, rfl, .inl ⟨h1, fun q hq => post_newU s st p hq h2⟩⟩
      · rename_i ds hv
        obtain ⟨l, vs, rfl, h0, h1, h2⟩ := view_tup s r1 hv
        exact ⟨_, _, rfl, .inr ⟨h1, post_now s st p h0.1⟩⟩
      · exact p.elim
  · exact p.elim
end DL
end

section
set_option Elab.async false
set_option linter.all false
set_option maxRecDepth 100000
set_option maxHeartbeats 1000000
/-! DL13: sorted. -/
namespace DL
open PySem PySem.Spec PyProof.Rows L2
open PySem.W (AllAlike Sortable EachIs dataLe sorted_data)

/-! ### sorted -/
def mgF {α : Type} (le : α → α → Bool) : Nat → List α → List α → List α
  | 0, xs, ys => xs ++ ys
  | _ + 1, [], ys => ys
  | _ + 1, xs, [] => xs
  | n + 1, x :: xs, y :: ys => if le x y = true then x :: mgF le n xs (y :: ys) else y :: mgF le n (x :: xs) ys
theorem mgF_eq {α : Type} (le : α → α → Bool) : ∀ (n : Nat) (xs ys : List α), xs.length + ys.length ≤ n → mgF le n xs ys = List.merge xs ys le
  | 0, xs, ys, h => by
    have h1 : xs = [] := List.length_eq_zero_iff.mp (by omega)
    have h2 : ys = [] := List.length_eq_zero_iff.mp (by omega)
    subst h1 h2
    simp [mgF, List.merge]
  | n + 1, [], ys, h => by simp [mgF, List.merge]
  | n + 1, x :: xs, [], h => by simp [mgF, List.merge]
  | n + 1, x :: xs, y :: ys, h => by
    simp only [List.length_cons] at h
    unfold mgF List.merge
    rw [mgF_eq le n xs (y :: ys) (by simp; omega), mgF_eq le n (x :: xs) ys (by simp; omega)]
def msF {α : Type} (le : α → α → Bool) : Nat → List α → List α
  | 0, l => l
  | _ + 1, [] => []
  | _ + 1, [a] => [a]
  | n + 1, a :: b :: xs => mgF le (xs.length + 2) (msF le n ((a :: b :: xs).take ((xs.length + 3) / 2))) (msF le n ((a :: b :: xs).drop ((xs.length + 3) / 2)))
theorem msF_eq {α : Type} (le : α → α → Bool) : ∀ (n : Nat) (l : List α), l.length ≤ n → msF le n l = l.mergeSort le
  | 0, l, h => by
    have h1 : l = [] := List.length_eq_zero_iff.mp (by omega)
    subst h1
    simp [msF]
  | n + 1, [], h => by simp [msF]
  | n + 1, [a], h => by simp [msF]
  | n + 1, a :: b :: xs, h => by
    simp only [List.length_cons] at h
    have e1 := msF_eq le n ((a :: b :: xs).take ((xs.length + 3) / 2)) (by simp; omega)
    have e2 := msF_eq le n ((a :: b :: xs).drop ((xs.length + 3) / 2)) (by simp; omega)
    unfold msF
    rw [e1, e2, mgF_eq le _ _ _ (by simp only [List.length_mergeSort, List.length_take, List.length_drop, List.length_cons]; omega)]
    rw [List.mergeSort]
    simp [List.MergeSort.Internal.splitInTwo, List.splitAt_eq]
def srt {α : Type} (le : α → α → Bool) (l : List α) : List α := msF le l.length l
theorem srt_eq {α : Type} (le : α → α → Bool) (l : List α) : srt le l = l.mergeSort le := msF_eq le _ l (Nat.le_refl _)
abbrev sd (b : V × D) : D := b.2
def okS (ds : List D) : Bool := (ds.all fun d => ds.all fun e => PySem.W.alike d e) && ((ds.all fun d => match d with | .tuple (_ :: _) => true | _ => false) || (ds.all fun d => match d with | .none => false | .tuple _ => false | _ => true)) &&
  decide (ds.length ≤ sizeLine) && ds.all fun d => d.plain && decide (d.depth ≤ 40)
theorem okS_1 {ds : List D} (h : okS ds = true) : AllAlike ds := by
  simp only [okS, Bool.and_eq_true, List.all_eq_true] at h
  exact fun d hd e he => h.1.1.1 d hd e he
theorem okS_2 {ds : List D} (h : okS ds = true) : Sortable ds := by
  simp only [okS, Bool.and_eq_true, Bool.or_eq_true, List.all_eq_true] at h
  rcases h.1.1.2 with q | q
  · refine .inl fun d hd => ?_
    have := q d hd
    split at this
    · exact ⟨_, _, rfl⟩
    · cases this
  · refine .inr fun d hd => ?_
    have := q d hd
    split at this
    · cases this
    · cases this
    · rename_i h1 h2
      exact ⟨fun e => h1 e, fun xs e => h2 xs e⟩
theorem okS_3 {ds : List D} (h : okS ds = true) : ds.length ≤ sizeLine := by
  simp only [okS, Bool.and_eq_true, decide_eq_true_eq] at h
  exact h.1.2
theorem okS_4 {ds : List D} (h : okS ds = true) {d : D} (hd : d ∈ ds) : d.plain = true ∧ d.depth ≤ 40 := by
  simp only [okS, Bool.and_eq_true, List.all_eq_true, decide_eq_true_eq] at h
  exact h.2 d hd
def rSortedD (K : PySem.W.Frag) : List V → Hp → VK → Prop := fun xs H Q => ∃ (a : Addr) (bs : List (V × D)), xs = [.ref a] ∧ SqL K H a (bs.map (·.1)) ∧ (∀ b ∈ bs, Dp K H b.1 b.2) ∧ okS (bs.map (·.2)) = true ∧
  ∀ p, H p = none → Q (.ref p) (upd H p (.lst ((bs.mergeSort (dataLe false sd)).map (·.1))))
theorem each_of {H : Hp} {s : Shared} {K : PySem.W.Frag} : ∀ {bs : List (V × D)} {its : List Value}, Vals (bs.map (·.1)) its → EachIs (fun u b => RelV b.1 u) its bs
  | [], _, .nil => .nil
  | b :: bs, _, .cons r t => .cons r (each_of (H := H) (s := s) (K := K) t)
theorem vals_each : ∀ {bs : List (V × D)} {its : List Value}, EachIs (fun u (b : V × D) => RelV b.1 u) its bs → Vals (bs.map (·.1)) its
  | _, _, .nil => .nil
  | _, _, .cons r t => .cons r (vals_each t)
theorem each_mono {R S : Value → V × D → Prop} : ∀ {bs : List (V × D)} {its : List Value}, EachIs R its bs → (∀ u b, b ∈ bs → R u b → S u b) → EachIs S its bs
  | _, _, .nil, _ => .nil
  | _, _, .cons r t, h => .cons (h _ _ List.mem_cons_self r) (each_mono t fun u b hb => h u b (List.mem_cons_of_mem _ hb))
theorem call_sortedD {X : Cx} (hu : X.A.units + 64 < cLine) : CallR X (.builtin "sorted") (rSortedD X.K) := by
  intro pins s σ H vs us Q I r h
  obtain ⟨a, bs, rfl, hs, hd, ok, q⟩ := h
  obtain ⟨its, rv, hl, hz⟩ := I.list hs
  obtain ⟨u, rfl, ru⟩ := vals1 r
  obtain rfl : u = Value.ref a := ru
  have e1 : EachIs (fun u (b : V × D) => RelV b.1 u) its bs := each_of (H := H) (s := s) (K := X.K) rv
  have e2 : EachIs (fun v (b : V × D) => ∃ as, Reads s.heap v (sd b) as) its bs := each_mono e1 fun u b hb hr => Dp.reads I _ _ _ (hd b hb) hr
  refine sorted_data (enc := sd) hl.isList e1 e2 (okS_1 ok) (okS_2 ok) (by have := okS_3 ok; simpa using this) (fun b hb => ?_) fun out ho eo => ?_
  · have := (okS_4 ok (List.mem_map_of_mem (f := (·.2)) hb)).2
    show X.A.units + 2 + b.2.depth < cLine
    omega
  · obtain ⟨ep, he'⟩ := PyProof.Rows.sortedAll_at s.heap its out.toArray
    have hlen : ((bs.mergeSort (dataLe false sd)).map (·.1)).length ≤ sizeLine := by
      have := okS_3 ok
      simpa using this
    exact ⟨.ref _, upd H (s.heap.objs.size + 1) (.lst ((bs.mergeSort (dataLe false sd)).map (·.1))), I.laid (t' := s.toks) (fun _ _ => PyProof.Rows.sortedAll_old) (Nat.le_succ _) ⟨hlen, out, ep, vals_each eo, he'⟩, rfl, q _ (I.hok.fresh (Nat.le_succ _))⟩
def dLe : D → D → Bool := dataLe false (fun d : D => d)
theorem sorted_snd (bs : List (V × D)) : (bs.mergeSort (dataLe false sd)).map (·.2) = (bs.map (·.2)).mergeSort dLe := by
  rw [List.map_mergeSort]
  intro a _ b _
  rfl
theorem repAll_zip {cls : Str → Addr} {F : Hp} : ∀ {bs : List (V × D)}, (∀ b ∈ bs, Rep cls F b.1 b.2) → RepAll cls F (bs.map (·.1)) (bs.map (·.2))
  | [], _ => .nil
  | b :: bs, h => .cons (h b List.mem_cons_self) (repAll_zip fun c hc => h c (List.mem_cons_of_mem _ hc))
theorem zip_rep {cls : Str → Addr} {F : Hp} : ∀ {vs : List V} {ds : List D}, RepAll cls F vs ds → (vs.zip ds).map (·.1) = vs ∧ (vs.zip ds).map (·.2) = ds ∧ ∀ b ∈ vs.zip ds, Rep cls F b.1 b.2
  | _, _, .nil => ⟨rfl, rfl, fun _ h => by simp at h⟩
  | _, _, .cons h r => by
    obtain ⟨h1, h2, h3⟩ := zip_rep r
    refine ⟨by simp only [List.zip_cons_cons, List.map_cons, h1], by simp only [List.zip_cons_cons, List.map_cons, h2], fun b hb => ?_⟩
    simp only [List.zip_cons_cons, List.mem_cons] at hb
    rcases hb with rfl | hb
    · exact h
    · exact h3 b hb
def sortF (Γ : Gam) (vs : List Val) : R Val := match vs with
  | [v] => match viewD Γ v with
    | some (.list ds) => if okS ds = true then .ok (.n (.ol (srt dLe ds))) Γ else .stuck
    | _ => .stuck
  | _ => .stuck
theorem dp_up {K : PySem.W.Frag} {cls : Str → Addr} {F H : Hp} (fh : Ex F H) {v : V} {d : D} (r : Rep cls F v d) (p : d.plain = true) : Dp K H v d := Rep.dp (Rep.mono fh r) p
theorem cs_sorted {M : Pm} : CallS M (rSortedD M.K) sortF := by
  intro E Γ σ F0 H0 own0 F H own xs as Q s st r p
  unfold sortF at p
  split at p
  · cases r with
    | cons r1 r2 =>
      cases r2
      split at p
      · rename_i ds hv
        split at p
        · rename_i ok
          rw [srt_eq] at p
          obtain ⟨l, vs, rfl, h1, h2⟩ := view_list s r1 hv
          obtain ⟨z1, z2, z3⟩ := zip_rep h2
          refine ⟨l, vs.zip ds, rfl, by rw [z1]; exact h1, fun b hb => ?_, by rw [z2]; exact ok, fun q hq => ?_⟩
          · have hm : b.2 ∈ ds := by
              rw [← z2]
              exact List.mem_map_of_mem (f := (·.2)) hb
            exact dp_up s.fh (z3 b hb) (okS_4 ok hm).1
          · refine post_newL s st p hq ?_
            have e := sorted_snd (vs.zip ds)
            rw [z2] at e
            rw [← e]
            exact repAll_zip fun b hb => z3 b ((List.mergeSort_perm _ _).mem_iff.mp hb)
        · exact p.elim
      · exact p.elim
  · exact p.elim
end DL
end

section
set_option Elab.async false
set_option linter.all false
set_option maxRecDepth 100000
set_option maxHeartbeats 1000000
/-! DL14: side conditions, more nodes. -/
namespace DL
open PySem PySem.Spec PyProof.Rows L2
def blkB (N : List Str) (sc scope : Scope) (own : List (Str × Nat)) : Bool :=
  decide (scope.kind = .function) && (scope.names.all fun y => decide (scope.names.lookup y.1 = some y.2)) && (own.all fun p => decide (N[p.2]? = some p.1)) &&
  (scope.names.all fun y => !decide (y.2 = .free) || decide (sc.names.lookup y.1 = some .cell) || decide (sc.names.lookup y.1 = some .free)) &&
  (scope.names.all fun y => !(decide (y.2 = .local) || decide (y.2 = .cell)) || decide (y.1 ∈ own.map (·.1)) || decide (y.1 ∉ N))
theorem blkOk_of {N : List Str} {sc scope : Scope} {own : List (Str × Nat)} (h : blkB N sc scope own = true) : BlkOk N sc scope own := by
  simp only [blkB, Bool.and_eq_true, decide_eq_true_eq, List.all_eq_true] at h
  obtain ⟨⟨⟨⟨h1, h2⟩, h3⟩, h4⟩, h5⟩ := h
  refine ⟨h1, h2, h3, fun y hy e => ?_, fun y hy e => ?_⟩
  · have := h4 y hy
    simp only [Bool.or_eq_true, Bool.not_eq_true', decide_eq_false_iff_not, decide_eq_true_eq] at this
    rcases this with (q | q) | q
    · exact absurd e q
    · exact .inl q
    · exact .inr q
  · have := h5 y hy
    simp only [Bool.or_eq_true, Bool.not_eq_true', Bool.or_eq_false_iff, decide_eq_false_iff_not, decide_eq_true_eq] at this
    rcases this with (q | q) | q
    · rcases e with e | e
      · exact absurd e q.1
      · exact absurd e q.2
    · exact .inl q
    · exact .inr q
theorem attr1 {K : PySem.W.Frag} {cls : Str → Addr} {a0 : Option Addr} {c f : Str} (h : AttrOk ⟨K, cls, none⟩ c f) : ∀ d ∈ [c], AttrOk ⟨K, cls, a0⟩ d f := fun d hd => by
  simp only [List.mem_singleton] at hd
  subst hd
  exact ⟨h.cl, h.no⟩
theorem pe_gcD {X : Cx} {x : Str} {v : V} {pos : Pos} (hg : Gl X x) (h : ∃ u, X.mg x = some u ∧ RelV v u) (hd : (x == ("__debug__" : Str)) = false := by decide) : PE X (.Name x pos) (tC v) := by
  obtain ⟨u, hm, r⟩ := h
  exact pe_glob hg hm r hd
/-! ### bit_length, append -/
def bitsM (m : Gam → R Val) : Gam → R Val := fun Γ => (rd m Γ).bind fun v Γ1 => match v with
  | .f (.int i) => .ok (.f (.int (Builtin.Int.intBits i : Nat))) Γ1
  | _ => .stuck
section
variable {X : Cx} {M : Pm} {E : XK} {o e : Expr} {m me : Gam → R Val} {apos pos : Pos}
theorem e_bits (ho : PE X o (tE M E m)) (hbase : attributeBase o "bit_length" X.env (eval o X.env) = eval o X.env := by rfl) (hline : (apos.endLine == pos.line) = true := by rfl) : PE X (.Call (.Attribute o "bit_length" apos) [] [] pos) (tE M E (bitsM m)) :=
  PE_weak (pe_bits (pe_rd ho) hbase hline) fun σ H Q ⟨Γ, F, own, st, q⟩ => by
    refine ⟨Γ, F, own, st, post_bind q fun F1 H1 own1 Γ1 x a _ st1 s1 r1 p1 => ?_⟩
    split at p1
    · cases r1
      exact ⟨_, rfl, post_now st1 s1 p1 (.int _)⟩
    · exact p1.elim
def appendM (i : Nat) (me : Gam → R Val) : Gam → R Val := fun Γ => match Γ[i]? with
  | some (.one (.ol _)) => (fzL me Γ).bind fun d Γ1 => match Γ1[i]? with
    | some (.one (.ol ds)) => if ds.length < sizeLine then .ok (.f .none) (Γ1.set i (.own (ds ++ [d]))) else .stuck
    | _ => .stuck
  | _ => .stuck
theorem StR.setL {Γ : Gam} {σ : L2.St} {F H : Hp} {own : Own} {i : Nat} {l : Addr} {vs vs' : List V} {ds' : List D} {ds : List D} (s : StR M Γ σ F H own) (hi : Γ[i]? = some (.own ds)) (hv : σ[i]? = some (some (.ref l))) (hl : H l = some (.lst vs)) (r : RepAll M.cls F vs' ds') :
    StR M (Γ.set i (.own ds')) σ F (upd H l (.lst vs')) own ∧ Step F H own F (upd H l (.lst vs')) own ∧ own i l := by
  obtain ⟨v, h1, l', ws, rfl, h2, h3, h4⟩ := s.slot i _ hi
  rw [hv] at h1
  cases h1
  have hil : own i l := (h2 l).mpr rfl
  have hf : F l = none := s.free i l hil
  have ex : ∀ b u, b ≠ l → H b = some u → upd H l (.lst vs') b = some u := fun b u e h => by rw [upd_ne e]; exact h
  refine ⟨⟨by simp [s.len], fun a u e => ?_, fun j x hj => ?_, fun j hj a => s.out j (by simpa using hj) a, s.free, fun j a h => ?_, s.disj⟩, ⟨.refl _, fun a u h n => ex a u (fun e => n i (e ▸ hil)) h, fun a h _ _ => h, fun j a h => .inl ⟨j, h⟩, fun a h => ?_⟩, hil⟩
  · exact ex a u (fun q => by rw [q, hf] at e; cases e) (s.fh a u e)
  · by_cases q : j = i
    · subst q
      rw [List.getElem?_set_self (s.lt hi)] at hj
      cases hj
      exact ⟨_, hv, l, vs', rfl, h2, upd_same, r⟩
    · rw [List.getElem?_set_ne (Ne.symm q)] at hj
      exact (s.slot j x hj).mono (.refl _) fun b u hb h => ex b u (fun e => q (s.disj j i b hb (e ▸ hil))) h
  · by_cases q : a = l
    · rw [q, upd_same]; simp
    · rw [upd_ne q]; exact s.there j a h
  · by_cases q : a = l
    · rw [q, upd_same]; simp
    · rw [upd_ne q]; exact h
theorem e_append {i : Nat} (hv : PE X o (tVar i)) (he : PE X e (tE M E me))
    (hbase : attributeBase o "append" X.env (eval o X.env) = eval o X.env := by rfl)
    (hfew : ((backTo pos (starEach [e] X.env)).all (fun x => !x.1) && (backToKw pos (keywordEach [] X.env)).all (fun x => x.1.isSome)
      && decide (([e] : List Expr).length + ([] : List Keyword).length + (if ([] : List Keyword).isEmpty then 0 else 1) < 30)) = true := by rfl)
    (hline : (apos.endLine == pos.line) = true := by rfl) (hs : starEach [e] X.env = (false, eval e X.env) :: starEach [] X.env := by rfl) (hplain : (backTo pos (starEach [] X.env)).any (·.1) = false := by rfl) :
    PE X (.Call (.Attribute o "append" apos) [e] [] pos) (tE M E (appendM i me)) :=
  PE_weak (pe_bm PySem.F.plainAttrs_list PySem.F.slot_list_append PySem.F.type_list_append mt_append hv (pa_cons (pe_fz he) pa_nil hs) hbase hfew hline hs hplain) fun σ H Q ⟨Γ, F, own, st, q⟩ => by
    unfold appendM at q
    split at q
    · rename_i ds0 hi0
      obtain ⟨v, h1, l, vs, rfl, h2, h3, h4⟩ := st.slot i _ hi0
      refine ⟨_, h1, .inl ⟨rfl, vs, .inl (.inl h3)⟩, Γ, F, own, st, post_bind q fun F1 H1 own1 Γ1 x d _ st1 s1 r1 p1 => ?_⟩
      split at p1
      · rename_i ds hi
        split at p1
        · rename_i hz
          obtain ⟨v', k1, l', vs', rfl, k2, k3, k4⟩ := st1.slot i _ hi
          rw [h1] at k1
          cases k1
          obtain ⟨sA, stA, _⟩ := st1.setL hi h1 k3 (k4.snoc r1)
          exact ⟨l, vs', x, rfl, rfl, k3, by rw [k4.length]; exact hz, p1 .non F1 _ own1 sA (s1.trans stA) .non⟩
        · exact p1.elim
      · exact p1.elim
    · exact q.elim
end
end DL
end

section
set_option Elab.async false
set_option linter.all false
set_option maxRecDepth 100000
set_option maxHeartbeats 1000000
/-! DL15: tuple.index, tuple(list) with its object known, a, b = x, y, self.f = v, isinstance of two. -/
namespace DL
open PySem PySem.Spec PyProof.Rows L2
/-! ### tuple(xs): the object is known -/
section
variable {X : Cx}
abbrev rTupK (K : PySem.W.Frag) : List V → Hp → VK → Prop := fun xs H Q => ∃ p ys, xs = [.ref p] ∧ SqL K H p ys ∧ ∀ l (o : Obj), H l = none → o.dict = none → Q (.ref l) (upd H l (.frz o (.tup ys)))
theorem call_tupK : CallR X (.type "tuple") (rTupK X.K) := by
  intro pins s σ H xs us Q I r h
  obtain ⟨p, ys, rfl, hq, q⟩ := h
  obtain ⟨u, rfl, rx⟩ := vals1 r
  cases rx
  obtain ⟨its, r', pl, hz⟩ := I.list hq
  have hlen := r'.length
  refine call_tuple_list pl.isList (fun h' kp => ?_) (by simp only [List.size_toArray] <;> omega)
  have I1 : Inv X pins σ H { s with heap := h' } := I.kept (t' := s.toks) kp
  have hg : (h'.push { cls := .type "tuple", data := .seq its.toArray }).get? h'.objs.size = some { cls := .type "tuple", data := .seq its.toArray } := Heap.get?_push_size _ rfl
  have I2 : Inv X pins σ (upd H h'.objs.size (.frz { cls := .type "tuple", data := .seq its.toArray } (.tup ys))) { s with heap := h'.push { cls := .type "tuple", data := .seq its.toArray } } :=
    I1.laid (t' := s.toks) (fun b o e => Heap.get?_push_of_some _ e) (Nat.le_refl _) (show ObjOk X.prog X.w _ _ _ (.frz _ (.tup ys)) from ⟨hg, hz, its, r', IsTup.new _ _⟩)
  exact ⟨.ref h'.objs.size, _, I2, rfl, q _ _ (I1.hok.fresh (Nat.le_refl _)) rfl⟩
end
def tupKF (Γ : Gam) (vs : List Val) : R Val := match vs with
  | [v] => match viewD Γ v with
    | some (.list ds) => match keysOf ds with
      | none => .ok (.f (knD ds)) Γ
      | some _ => .stuck
    | _ => .stuck
  | _ => .stuck
theorem cs_tupK {M : Pm} : CallS M (rTupK M.K) tupKF := by
  intro E Γ σ F0 H0 own0 F H own xs as Q s st r p
  unfold tupKF at p
  split at p
  · cases r with
    | cons r1 r2 =>
      cases r2
      split at p
      · rename_i ds hv
        split at p
        · rename_i hk
          obtain ⟨l, vs, rfl, h1, h2⟩ := view_list s r1 hv
          refine ⟨_, _, rfl, h1, fun q o hq ho => ?_⟩
          have g : Grow F H (upd F q (.frz o (.tup vs))) (upd H q (.frz o (.tup vs))) := .new s.fh hq
          exact p _ _ _ own (s.grow g) (st.trans (g.step own)) (.kn upd_same ho hk (RepAll.mono g.ff h2))
        · exact p.elim
      · exact p.elim
  · exact p.elim
/-! ### t.index(x) -/
abbrev tyTupK (v : V) (H : Hp) : Prop := ∃ p o xs, v = .ref p ∧ H p = some (.frz o (.tup xs)) ∧ o.dict = none
theorem ty_tupK {X : Cx} : TyOk X "tuple" tyTupK := by
  intro pins σ H s x v I r ty
  obtain ⟨p, o, xs, rfl, h, hd⟩ := ty
  cases r
  have ok : ObjOk X.prog X.w H s.heap p (.frz o (.tup xs)) := I.hok p _ h
  obtain ⟨h1, _, its, _, o', h2, h3, _⟩ := ok
  rw [h1] at h2
  cases h2
  refine ⟨⟨o, h1, h3⟩, fun a e => ?_⟩
  cases e
  exact ⟨o, h1, hd⟩
abbrev rTix (K : PySem.W.Frag) : V → List V → Hp → VK → Prop := fun x xs H Q => ∃ (p : Addr) (y : V) (d : D) (ds : List D) (j : Nat), x = .ref p ∧ xs = [y] ∧ Dp K H (.ref p) (.tuple ds) ∧ Dp K H y d ∧ okI ds d = true ∧ PySem.SeqAt.dataPlace ds d = some j ∧ Q (.int (j : Nat)) H
theorem mt_tix {X : Cx} (hu : X.A.units + 64 < cLine) : MtR X "tuple.index" (rTix X.K) := by
  intro pins s σ H x xs v us Q I rx rs h
  obtain ⟨p, y, d, ds, j, rfl, rfl, hp, hy, ok, hj, q⟩ := h
  cases rx
  obtain ⟨u, rfl, ru⟩ := vals1 rs
  obtain ⟨bs, rb⟩ := Dp.reads I d y u hy ru
  cases hp with
  | tup hs ha =>
    obtain ⟨its, rv, pl, hz⟩ := I.tuple hs
    obtain ⟨⟨cls, dd, dt, sl⟩, ho, hc, n, hd⟩ := pl
    simp only at hc hd
    subst hc hd
    obtain ⟨as, h4⟩ := Dp.readsAll I ds _ its ha rv
    simp only [okI, Bool.and_eq_true, Bool.or_eq_true, decide_eq_true_eq] at ok
    have h5 : ReadsAll s.heap its.toArray.toList ds as := h4
    obtain ⟨hj', hit, hno⟩ := PySem.SeqAt.hit_at h5 ok.1.2 hj
    refine call_meets PySem.F.slot_tuple_index ⟨_, ho, rfl⟩ PySem.F.entry_tuple_index (PySem.F.args_tuple_index_2 _ _) (TI.tuple_indexAt p its.toArray n dd sl u (fun w => PyData.eqv (PySem.SeqAt.readOf s.heap w) d) j hj' hit hno)
      ⟨ho, PySem.SeqAt.items_plain h5 rb ok.1.2 ok.1.1 (by rcases ok.2 with q | q <;> omega), ⟨.int (j : Nat), H, I.tok _, ⟨_, rfl⟩, q⟩⟩
def knOf : D → Option (List D)
  | .dict [(.none, .int 2), (.none, .tuple ds)] => some ds
  | _ => none
theorem knOf_some {d : D} {ds : List D} (h : knOf d = some ds) : d = knD ds := by
  unfold knOf at h
  split at h
  · cases h
    rfl
  · cases h
theorem Rep.invKn {M : Str → Addr} {F : Hp} {v : V} {ds : List D} (h : Rep M F v (knD ds)) : ∃ a o vs, v = .ref a ∧ F a = some (.frz o (.tup vs)) ∧ o.dict = none ∧ RepAll M F vs ds := by
  generalize e : knD ds = d at h
  cases h with
  | kn h1 h2 h3 h4 =>
    simp only [knD, PyData.dict.injEq, List.cons.injEq, Prod.mk.injEq, PyData.tuple.injEq, and_true, true_and] at e
    subst e
    exact ⟨_, _, _, rfl, h1, h2, h4⟩
  | dcK h1 h2 h3 => simp [dicK, knD] at e
  | dcT h1 h2 h3 => simp [dicT, knD] at e
  | dcF h1 h2 h3 => simp [dicF, knD] at e
  | ins h1 h2 h3 => simp [DL.ins, knD] at e
  | _ => simp [knD] at e
def indexM (mo me : Gam → R Val) : Gam → R Val := fun Γ => (rd mo Γ).bind fun v Γ1 => match v with
  | .f k => match knOf k with
    | some ds => (rd me Γ1).bind fun u Γ2 => match viewD Γ2 u with
      | some d => if okI ds d = true then match PySem.SeqAt.dataPlace ds d with
          | some j => .ok (.f (.int (j : Nat))) Γ2
          | none => .stuck
        else .stuck
      | none => .stuck
    | none => .stuck
  | _ => .stuck
section
variable {X : Cx} {M : Pm} {E : XK} {o e a b c value : Expr} {ma mb mo me m : Gam → R Val} {apos pos p : Pos}
theorem e_index (hu : X.A.units + 64 < cLine) (hK : X.K = M.K) (ho : PE X o (tE M E mo)) (he : PE X e (tE M E me))
    (hbase : attributeBase o "index" X.env (eval o X.env) = eval o X.env := by rfl)
    (hfew : ((backTo pos (starEach [e] X.env)).all (fun x => !x.1) && (backToKw pos (keywordEach [] X.env)).all (fun x => x.1.isSome)
      && decide (([e] : List Expr).length + ([] : List Keyword).length + (if ([] : List Keyword).isEmpty then 0 else 1) < 30)) = true := by rfl)
    (hline : (apos.endLine == pos.line) = true := by rfl) (hs : starEach [e] X.env = (false, eval e X.env) :: starEach [] X.env := by rfl) (hplain : (backTo pos (starEach [] X.env)).any (·.1) = false := by rfl) :
    PE X (.Call (.Attribute o "index" apos) [e] [] pos) (tE M E (indexM mo me)) :=
  PE_weak (pe_mG ty_tupK PySem.F.plainAttrs_tuple PySem.F.slot_tuple_index PySem.F.type_tuple_index (mt_tix hu) (pe_rd ho) (pa_cons (pe_rd he) pa_nil hs) hbase hfew hline hs hplain) fun σ H Q ⟨Γ, F, own, st, q⟩ => by
    refine ⟨Γ, F, own, st, post_bind q fun F1 H1 own1 Γ1 x v _ st1 s1 r1 p1 => ?_⟩
    split at p1
    · rename_i k _
      split at p1
      · rename_i ds hk
        have r0 : Rep M.cls F1 x k := r1
        rw [knOf_some hk] at r0
        obtain ⟨l, ob, vs, rfl, h1, h2, h3⟩ := Rep.invKn r0
        refine ⟨⟨l, ob, vs, rfl, st1.fh _ _ h1, h2⟩, Γ1, F1, own1, st1, post_bind (p1.mono (back_V M) s1) fun F2 H2 own2 Γ2 y u _ st2 s2 r2 p2 => ?_⟩
        split at p2
        · rename_i d hd
          split at p2
          · rename_i ok
            split at p2
            · rename_i j hj
              have ok' := ok
              simp only [okI, Bool.and_eq_true] at ok'
              refine ⟨l, y, d, ds, j, rfl, rfl, ?_, ?_, ok, hj, post_now st2 s2 p2 (.int _)⟩
              · rw [hK]
                exact .tup (.inl (.inr ⟨ob, st2.fh _ _ (s2.ff _ _ h1)⟩)) (RepAll.dp (RepAll.mono (s2.ff.trans st2.fh) h3) ok'.1.2)
              · rw [hK]
                exact view_dp st2 r2 hd ok'.1.1
            · exact p2.elim
          · exact p2.elim
        · exact p2.elim
      · exact p1.elim
    · exact p1.elim
/-! ### a, b = x, y (the first a datum) -/
def par2M (i j : Nat) (ma mb : Gam → R Val) : Gam → RS := fun Γ => stm (fzL ma Γ) fun d Γ1 => stm (mb Γ1) fun v Γ2 =>
  if i < Γ2.length ∧ j < Γ2.length then (match v with
    | .f d' => .nx ((Γ2.set i (.val d)).set j (.val d'))
    | .n f => .nx ((Γ2.set i (.val d)).set j (.one f))
    | .nc c fds => .nx ((Γ2.set i (.val d)).set j (.cmp c none fds))
    | .nb n d' => .nx ((Γ2.set i (.val d)).set j (.box n none d'))
    | .b _ => .stuck) else .stuck
theorem s_par2 {i j : Nat} {x y : Str} {px py pt : Pos} {kt k2 pt2} (hc : X.calm = true) (hN : X.N.Nodup) (hi : X.N[i]? = some x) (hj : X.N[j]? = some y) (hij : i ≠ j)
    (hx : X.env.scope.names.lookup x = some .local) (hy : X.env.scope.names.lookup y = some .local) (ha : PE X a (tE M E ma)) (hb : PE X b (tE M E mb))
    (hw : swappedStores [.Tuple [.Name x px, .Name y py] kt pt] (.Tuple [a, b] k2 pt2) X.env = pure (some [x, y]))
    (h1 : starEach [a, b] X.env = (false, eval a X.env) :: starEach [b] X.env := by rfl) (h2 : starEach [b] X.env = (false, eval b X.env) :: starEach [] X.env := by rfl)
    (hs : swapsWithSole [.Tuple [.Name x px, .Name y py] kt pt] (.Tuple [a, b] k2 pt2) pos.line X.env = pure false := by rfl) :
    PS X (.Assign [.Tuple [.Name x px, .Name y py] kt pt] (.Tuple [a, b] k2 pt2) pos) (tS M E (par2M i j ma mb)) := PS_weak (ps_par hc hN hi hj hij hx hy (pa_cons (pe_fz ha) (pa_cons hb pa_nil h2) h1) hw hs) fun D σ H ⟨Γ, F, own, s, p⟩ =>
  ⟨Γ, F, own, s, post_stm p fun F1 H1 own1 Γ1 x1 d _ s1 st1 r1 p1 => ⟨Γ1, F1, own1, s1, post_stm (p1.mono st1) fun F2 H2 own2 Γ2 x2 v _ s2 st2 r2 p2 => by
    refine ⟨x1, x2, rfl, ?_⟩
    split at p2
    · rename_i hl
      have q1 := s2.setv hl.1 (Rep.mono st2.ff r1)
      have hl2 : j < (Γ2.set i (.val d)).length := by simp; exact hl.2
      have nw : ∀ {o}, New H1 F2 H2 own2 o → New H1 F2 H2 (putO own2 i fun _ => False) o := fun n a ha => ⟨(n a ha).1, (n a ha).2.1, fun k hk => by
        by_cases e : k = i
        · subst e; rw [putO_same] at hk; exact hk.elim
        · rw [putO_ne e] at hk; exact (n a ha).2.2.1 k hk, (n a ha).2.2.2⟩
      split at p2
      · have q2 := q1.1.setv hl2 r2
        exact p2 _ F2 H2 _ q2.1 ((st2.trans q1.2).trans q2.2)
      · obtain ⟨o, k1, k2⟩ := r2
        exact p2 _ F2 H2 _ (q1.1.setn hl2 (nw k2) ⟨x2, rfl, k1⟩) (step_setn (st2.trans q1.2) (nw k2))
      · obtain ⟨a, o, rfl, k1, k2⟩ := r2
        exact p2 _ F2 H2 _ (q1.1.setn hl2 (nw k2) ⟨a, rfl, by simp, k1⟩) (step_setn (st2.trans q1.2) (nw k2))
      · obtain ⟨a, o, rfl, k1, k2⟩ := r2
        exact p2 _ F2 H2 _ (q1.1.setn hl2 (nw k2) ⟨a, rfl, by simp, k1⟩) (step_setn (st2.trans q1.2) (nw k2))
      · exact p2.elim
    · exact p2.elim⟩⟩
/-! ### self.f = v -/
def putFd (f : Str) (v : D) : List (Str × D) → List (Str × D)
  | [] => [(f, v)]
  | (g, x) :: r => if g = f then (g, v) :: r else (g, x) :: putFd f v r
theorem putF_rep {cls : Str → Addr} {F : Hp} {f : Str} {v : V} {d : D} (r : Rep cls F v d) : ∀ {fs : List (Str × V)} {fds : List (Str × D)}, fs.map (·.1) = fds.map (·.1) → RepAll cls F (fs.map (·.2)) (fds.map (·.2)) →
    (putF f v fs).map (·.1) = (putFd f d fds).map (·.1) ∧ RepAll cls F ((putF f v fs).map (·.2)) ((putFd f d fds).map (·.2))
  | [], [], _, _ => ⟨rfl, .cons r .nil⟩
  | [], _ :: _, h, _ => by simp at h
  | _ :: _, [], h, _ => by simp at h
  | (g, x) :: fs, (g', x') :: fds, h, q => by
    simp only [List.map_cons, List.cons.injEq] at h
    obtain ⟨rfl, h⟩ := h
    cases q with
    | cons q1 q2 =>
      unfold putF putFd
      by_cases e : g = f
      · rw [if_pos e, if_pos e]
        exact ⟨by simp [h], .cons r q2⟩
      · rw [if_neg e, if_neg e]
        obtain ⟨k1, k2⟩ := putF_rep r h q2
        exact ⟨by simp [k1], .cons q1 k2⟩
def fldS (c f : Str) (i : Nat) (m : Gam → R Val) : Gam → RS := fun Γ => stm (fzL m Γ) fun d Γ1 => match Γ1[i]? with
  | some (.cmp c' pin fds) => if c' = c ∧ fds.length < 900 then .nx (Γ1.set i (.cmp c' pin (putFd f d fds))) else .stuck
  | _ => .stuck
theorem s_fld {i : Nat} {c f : Str} {p' : Pos} (hA : AttrOk M c f) (hK : X.K = M.K) (ho : PE X o (tVar i)) (hv : PE X value (tE M E m)) (hs : swapsWith value (some (.Attribute o f p')) pos.line X.env = pure false := by rfl) :
    PS X (.Assign [.Attribute o f p'] value pos) (tS M E (fldS c f i m)) := PS_weak (ps_fld ho (pe_fz hv) hs) fun D σ H ⟨Γ, F, own, s, p⟩ =>
  ⟨Γ, F, own, s, post_stm p fun F1 H1 own1 Γ1 x d _ s1 st1 r p1 => by
    split at p1
    · rename_i c' pin fds hi
      split at p1
      · rename_i hc
        obtain ⟨rfl, hl⟩ := hc
        obtain ⟨a, h0, hp, dx, fs, h1, h2, h3, h4⟩ := s1.slot i _ hi
        have hlen : fs.length = fds.length := by
          have := congrArg List.length h3
          simpa using this
        refine ⟨_, h0, a, _, dx, fs, rfl, h1, by rw [hK]; exact hA.cl, by rw [hK]; exact hA.no, by omega, ?_⟩
        have hia : own1 i a := (h2 a).mpr rfl
        have hk : ∀ b u, H1 b = some u → ¬ own1 i b → upd H1 a (.ins (M.cls c') dx (putF f x fs)) b = some u := fun b u h n => by
          have e : b ≠ a := fun e => n (by rw [e]; exact hia)
          rw [upd_ne e]
          exact h
        obtain ⟨k1, k2⟩ := putF_rep (f := f) r h3 h4
        have q := s1.write (i := i) (x := .cmp c' pin (putFd f d fds)) (o := own1 i) (s1.lt hi) hk (s1.free i) (fun b hb => by
          rw [(h2 b).mp hb, upd_same]
          simp) (fun b hb => .inl hb) ⟨a, h0, hp, dx, _, upd_same, h2, k1, k2⟩
        refine p1 _ F1 _ _ q (st1.trans ⟨.refl _, fun b u h n => hk b u h (n i), fun b h1 _ _ => h1, fun j b hb => ?_, fun b hb => ?_⟩)
        · by_cases e : j = i
          · subst e; rw [putO_same] at hb; exact .inl ⟨j, hb⟩
          · rw [putO_ne e] at hb; exact .inl ⟨j, hb⟩
        · by_cases e : b = a
          · rw [e, upd_same]; simp
          · rw [upd_ne e]; exact hb
      · exact p1.elim
    · exact p1.elim⟩
end
end DL
end

section
set_option Elab.async false
set_option linter.all false
set_option maxRecDepth 100000
set_option maxHeartbeats 1000000
/-! DL16: isinstance of an own class, of two types. -/
namespace DL
open PySem PySem.Spec PyProof.Rows L2
structure IsC (K : PySem.W.Frag) (mg : Str → Option Value) (cls : Str → Addr) (c : Str) : Prop where
  gl : mg c = some (.ref (cls c))
  cl : Cls K (cls c)
  ha : PySem.W.findIn K (.ref (cls c)) "__class__" = some (some (.builtin "object.__class__"))
  hn : PySem.W.specialIn K (.builtin "object.__class__") "__get__" = some (some (.builtin "getset_descriptor.__get__"))
  htk : PySem.W.takesIn K (.builtin "object.__class__") = some true
  hm : PySem.W.mroIn K (cls c) (.type "object") = some true
  me : PySem.W.kitOne K (.ref (cls c)) (.ref (cls c)) = some true
  no : ∀ n ∈ ["NoneType", "bool", "int", "str", "list", "tuple", "dict"], PySem.W.kitOne K (.type n) (.ref (cls c)) = some false
def isClF (c : Str) (Γ : Gam) (v : Val) : R Val := match viewI Γ v with
  | some (c', _) => if c' = c then .ok (.f (.bool true)) Γ else .stuck
  | none => match tyV Γ v with
    | some (.cls _) => .stuck
    | some _ => .ok (.f (.bool false)) Γ
    | none => .stuck
def isClM (c : Str) (m : Gam → R Val) : Gam → R Val := fun Γ => (rd m Γ).bind fun v Γ1 => isClF c Γ1 v
def isTy2F (T T' : TyN) (Γ : Gam) (v : Val) : R Val := match tyV Γ v with
  | some t => match isTyB T t, isTyB T' t with
    | some b, some b' => .ok (.f (.bool (b || b'))) Γ
    | _, _ => .stuck
  | none => .stuck
def isTy2M (T T' : TyN) (m : Gam → R Val) : Gam → R Val := fun Γ => (rd m Γ).bind fun v Γ1 => isTy2F T T' Γ1 v
section
variable {X : Cx} {cls : Str → Addr} {a0 : Option Addr} {M : Pm} {E : XK} {e c c2 : Expr} {m : Gam → R Val} {p p2 pt pos : Pos} {n : Str}
theorem tyName_mem {t : TyN} (h : ∀ c, t ≠ .cls c) : tyName t ∈ ["NoneType", "bool", "int", "str", "list", "tuple", "dict"] := by
  cases t with
  | cls c => exact absurd rfl (h c)
  | _ => simp [tyName]
theorem e_isc (I : IsC X.K X.mg cls n) (hgn : Gl X n) (hg : Gl X "isinstance") (hm : X.mg "isinstance" = none) (he : PE X e (tE ⟨X.K, cls, a0⟩ E m))
    (hdb : (n == ("__debug__" : Str)) = false := by decide)
    (h1 : starEach [e, .Name n p2] X.env = (false, eval e X.env) :: starEach [.Name n p2] X.env := by rfl) (h2 : starEach [.Name n p2] X.env = (false, eval (.Name n p2) X.env) :: starEach [] X.env := by rfl) (hpl : (backTo pos (starEach [.Name n p2] X.env)).any (·.1) = false := by rfl) :
    PE X (.Call (.Name "isinstance" p) [e, .Name n p2] [] pos) (tE ⟨X.K, cls, a0⟩ E (isClM n m)) :=
  PE_weak (pe_callB call_isi hg hm (by kernel_rfl) (pa_cons (pe_rd he) (pa_cons (pe_glob (v := .ref (cls n)) hgn I.gl rfl hdb) pa_nil h2) h1) (by decide) (by decide) h1 hpl) fun σ H Q q => by
    obtain ⟨Γ, F, own, st, q⟩ := q
    refine ⟨Γ, F, own, st, post_bind q fun F1 H1 own1 Γ1 x a _ st1 s1 r1 p1 => ?_⟩
    unfold isClF at p1
    split at p1
    · rename_i c' fds hv
      split at p1
      · rename_i hc
        subst hc
        obtain ⟨l, dx, fs, rfl, k1, _, _⟩ := view_I st1 r1 hv
        exact ⟨_, _, .ref (cls c'), .ref (cls c'), true, rfl, .own _, .base (TyOf.ins k1 I.cl I.ha I.hn I.htk I.hm), I.me, post_now st1 s1 p1 (.bl _)⟩
      · exact p1.elim
    · split at p1
      · exact p1.elim
      · rename_i t ht hc
        have hn : ∀ c, t ≠ .cls c := fun c e => ht c e
        exact ⟨x, _, .type (tyName t), .ref (cls n), false, rfl, .own _, ty_ok st1 r1 hc hn, I.no _ (tyName_mem hn), post_now st1 s1 p1 (.bl _)⟩
      · exact p1.elim
/-- isinstance(e, (T, T')) -/
theorem e_isi2 (T T' : TyN) (hK : X.K = M.K) (hT : tyOk T = true) (hT' : tyOk T' = true) (hg : Gl X "isinstance") (hm : X.mg "isinstance" = none) (he : PE X e (tE M E m)) (hc : PE X c (tC (.ty (tyName T)))) (hc2 : PE X c2 (tC (.ty (tyName T')))) {kt}
    (h3 : starEach [c, c2] X.env = (false, eval c X.env) :: starEach [c2] X.env := by rfl) (h4 : starEach [c2] X.env = (false, eval c2 X.env) :: starEach [] X.env := by rfl)
    (h1 : starEach [e, .Tuple [c, c2] kt pt] X.env = (false, eval e X.env) :: starEach [.Tuple [c, c2] kt pt] X.env := by rfl) (h2 : starEach [.Tuple [c, c2] kt pt] X.env = (false, eval (.Tuple [c, c2] kt pt) X.env) :: starEach [] X.env := by rfl) (hpl : (backTo pos (starEach [.Tuple [c, c2] kt pt] X.env)).any (·.1) = false := by rfl) :
    PE X (.Call (.Name "isinstance" p) [e, .Tuple [c, c2] kt pt] [] pos) (tE M E (isTy2M T T' m)) :=
  PE_weak (pe_callB call_isiT hg hm (by kernel_rfl) (pa_cons (pe_rd he) (pa_cons (pe_tup (pa_cons hc (pa_cons hc2 pa_nil h4) h3)) pa_nil h2) h1) (by decide) (by decide) h1 hpl) fun σ H Q q => by
    obtain ⟨Γ, F, own, st, q⟩ := q
    refine ⟨Γ, F, own, st, post_bind q fun F1 H1 own1 Γ1 x a _ st1 s1 r1 p1 => ?_⟩
    refine ⟨by simp only [List.length_cons, List.length_nil]; rw [sizeLine_eq]; decide, fun tp ntp => ?_⟩
    unfold isTy2F at p1
    split at p1
    · rename_i t ht
      split at p1
      · rename_i b b' hb hb'
        have hn := isTyB_cls hb
        have g : Grow F1 H1 F1 (upd H1 tp (.tup [.ty (tyName T), .ty (tyName T')])) := .lay st1.fh ntp
        have st2 := st1.grow g
        have r2 : ValRd M σ F1 x a := r1
        refine ⟨x, tp, _, .type (tyName t), [.type (tyName T), .type (tyName T')], b || b', rfl, upd_same, .cons (.ty _) (.cons (.ty _) .nil), ?_, ?_, post_now st2 (s1.trans (g.step own1)) p1 (.bl _)⟩
        · rw [hK]
          exact ty_ok st2 r2 ht hn
        · cases b with
          | true => exact kitAny_cons (kit_of_ty (tyOk_or hT) hb) (fun e => by cases e) (fun _ => rfl)
          | false =>
            refine kitAny_cons (kit_of_ty (tyOk_or hT) hb) (fun _ => ?_) (fun e => by cases e)
            cases b' with
            | true => exact kitAny_cons (kit_of_ty (tyOk_or hT') hb') (fun e => by cases e) (fun _ => rfl)
            | false => exact kitAny_cons (kit_of_ty (tyOk_or hT') hb') (fun _ => kitAny_nil) (fun e => by cases e)
      · exact p1.elim
    · exact p1.elim
end
end DL
end

section
set_option Elab.async false
set_option linter.all false
set_option maxRecDepth 100000
set_option maxHeartbeats 1000000
/-! DL17: dict(pairs) of keys that are tuples. -/
namespace DL
open PySem PySem.Spec PyProof.Rows L2
/-- pair, key object, key, value -/
abbrev PT4 := Addr × Addr × List Key × V
def mergT (T : List PT4) (acc : List (List Key × V)) : List (List Key × V) := T.foldl (fun acc t => putK acc t.2.2.1 t.2.2.2) acc
def rDictPT (K : PySem.W.Frag) : List V → Hp → VK → Prop := fun xs H Q => ∃ (a : Addr) (T : List PT4), xs = [.ref a] ∧ SqL K H a (T.map fun t => .ref t.1) ∧ (∀ t ∈ T, SqT K H t.1 [.ref t.2.1, t.2.2.2] ∧ H t.2.1 = some (.tup (t.2.2.1.map kV))) ∧
  ∀ p, H p = none → Q (.ref p) (upd H p (.dT (mergT T [])))
theorem kt_up {H H' : Hp} (e : Ex H H') : ∀ {kvs : List (List Key × V)} {xs : List (List Key × Addr × Value)}, KT H kvs xs → KT H' kvs xs := by
  intro kvs xs r
  unfold KT at r ⊢
  induction r with
  | nil => exact .nil
  | cons h t ih => exact .cons ⟨h.1, e _ _ h.2.1, h.2.2⟩ ih
theorem kt_merge {H : Hp} : ∀ {T : List PT4} {us : List Value} {kvs : List (List Key × V)} {xs : List (List Key × Addr × Value)}, KT H kvs xs → (∀ t ∈ T, H t.2.1 = some (.tup (t.2.2.1.map kV))) → Paired (fun (t : PT4) u => RelV t.2.2.2 u) T us →
    KT H (mergT T kvs) (storedAllH xs ((T.zip us).map fun q => (q.1.2.2.1, q.1.2.1, q.2)))
  | [], _, kvs, xs, r, _, .nil => r
  | t :: T, _, kvs, xs, r, h, .cons ru rt => by
    have := kt_merge (T := T) (r.put t.2.2.1 (h t List.mem_cons_self) ru) (fun t' ht => h t' (List.mem_cons_of_mem _ ht)) rt
    exact this
theorem mergT_len : ∀ (T : List PT4) (kvs : List (List Key × V)), (mergT T kvs).length ≤ kvs.length + T.length
  | [], kvs => by simp [mergT]
  | t :: T, kvs => by
    have h1 := mergT_len T (putK kvs t.2.2.1 t.2.2.2)
    have h2 := length_putK kvs t.2.2.1 t.2.2.2
    show (mergT T (putK kvs t.2.2.1 t.2.2.2)).length ≤ _
    simp only [List.length_cons]
    omega
section
variable {X : Cx}
theorem pairs4 {pins : List (Addr × Obj)} {σ : L2.St} {H : Hp} {s : Shared} (I : Inv X pins σ H s) : ∀ {T : List PT4}, (∀ t ∈ T, SqT X.K H t.1 [.ref t.2.1, t.2.2.2] ∧ H t.2.1 = some (.tup (t.2.2.1.map kV))) →
    ∃ us : List Value, Paired (fun (t : PT4) u => RelV t.2.2.2 u) T us ∧ ∀ (j : Nat) (t : PT4) (u : Value), T[j]? = some t → us[j]? = some u → IsTup s.heap t.1 #[.ref t.2.1, u]
  | [], _ => ⟨[], .nil, fun j t u e => by simp at e⟩
  | t :: T, h => by
    obtain ⟨us, h1, h2⟩ := pairs4 I (T := T) fun t' ht => h t' (List.mem_cons_of_mem _ ht)
    obtain ⟨its, rv, ht, _⟩ := I.tuple (h t List.mem_cons_self).1
    obtain ⟨k, y, ei, ru, ry⟩ := vals2 rv
    subst ei
    cases ru
    refine ⟨y :: us, .cons ry h1, fun j t' u e1 e2 => ?_⟩
    cases j with
    | zero =>
      cases e1
      cases e2
      exact ht
    | succ j => exact h2 j t' u (by simpa using e1) (by simpa using e2)
theorem paired_len {α β : Type} {R : α → β → Prop} : ∀ {xs : List α} {ys : List β}, Paired R xs ys → xs.length = ys.length
  | _, _, .nil => rfl
  | _, _, .cons _ t => by simp [paired_len t]
theorem call_dictPT (hu : X.A.units + 64 < cLine) (hcalm : X.calm = true) : CallR X (.type "dict") (rDictPT X.K) := by
  intro pins s σ H xs us Q I r q
  obtain ⟨a, T, ex, hq, hp, q⟩ := q
  subst ex
  obtain ⟨u, eu, rx⟩ := vals1 r
  subst eu
  cases rx
  obtain ⟨its, rv, pl, hz⟩ := I.list hq
  have hT : T.map (fun t => V.ref t.1) = (T.map (·.1)).map V.ref := by simp
  rw [hT] at rv
  have ei := refs_at rv
  subst ei
  rw [List.length_map] at hz
  obtain ⟨ys, rel, hpr⟩ := pairs4 I hp
  have hl := paired_len rel
  obtain ⟨o, n, ho, hc, hd, hdat⟩ := pl
  have ok : PlainSeq "list" s.heap a ((T.map (·.1)).map Value.ref).toArray ∧ PairItems s.heap ((T.map (·.1)).map Value.ref).toArray (fun j => ((T.map (·.1))[j]?).getD 0) ((T.zip ys).map fun q => (Value.ref q.1.2.1, q.2)) := by
    refine ⟨⟨o, n, ho, hc, hd, hdat⟩, by simp [hl], fun j k v e => ?_⟩
    rw [List.getElem?_map] at e
    cases ez : (T.zip ys)[j]? with
    | none =>
      rw [ez] at e
      cases e
    | some z =>
      rw [ez] at e
      simp only [Option.map_some, Option.some.injEq, Prod.mk.injEq] at e
      obtain ⟨rfl, rfl⟩ := e
      obtain ⟨e1, e2⟩ := List.getElem?_zip_eq_some.mp ez
      have hz' : ((T.map (·.1))[j]?).getD 0 = z.1.1 := by simp [e1]
      refine ⟨by simp [e1], .inl ?_⟩
      show s.heap.IsTuple (((T.map (·.1))[j]?).getD 0) _
      rw [hz']
      exact hpr j z.1 z.2 e1 e2
  refine call_dict_pairsH (knd := tupleKind (mixKind X.prog X.w)) (ps := (T.zip ys).map fun q => (q.1.2.2.1, q.1.2.1, q.2)) (PairArg.list a _ (fun j => ((T.map (·.1))[j]?).getD 0) ((T.zip ys).map fun q => (Value.ref q.1.2.1, q.2))) (I.ok.hd hcalm) (show X.A.units + 1 + 1 < cLine by omega) ok ⟨by simp, fun i key v hr => ?_⟩ (fun h' hk x hx => ?_) ?_ fun h' tk hd' k => ?_
  · have hr : ((T.zip ys).map fun q => (Value.ref q.1.2.1, q.2))[i]? = some (key, v) := hr
    rw [List.getElem?_map] at hr
    cases ez : (T.zip ys)[i]? with
    | none =>
      rw [ez] at hr
      cases hr
    | some z =>
      rw [ez] at hr
      simp only [Option.map_some, Option.some.injEq, Prod.mk.injEq] at hr
      obtain ⟨rfl, rfl⟩ := hr
      exact ⟨z.1.2.2.1, z.1.2.1, by rw [List.getElem?_map, ez]; rfl, rfl⟩
  · obtain ⟨z, hz1, rfl⟩ := List.mem_map.mp hx
    have hm : z.1 ∈ T := (List.of_mem_zip (by exact hz1)).1
    have hk1 := key_of I.hok (hp _ hm).2
    obtain ⟨o', its', n', g1, g2, g3, g4⟩ := id hk1
    exact ⟨o', its', n', hk _ _ (Nat.ne_of_lt (Heap.lt_size g1)) (by simp) g1, g2, g3, g4⟩
  · rw [List.length_map, List.length_zip, ← hl, Nat.min_self]
    exact hz
  · have hm : (s.heap.objs.size == sysModules) = false := beq_eq_false_iff_ne.mpr (Nat.ne_of_gt I.big)
    have hf : H s.heap.objs.size = none := I.hok.fresh (Nat.le_refl _)
    have hlen : (mergT T []).length ≤ sizeLine := by
      have := mergT_len T []
      simp only [List.length_nil, Nat.zero_add] at this
      omega
    have kt : KT H (mergT T []) (storedAllH [] ((T.zip ys).map fun q => (q.1.2.2.1, q.1.2.1, q.2))) := kt_merge .nil (fun t ht => (hp t ht).2) rel
    have kt2 := kt_up (Ex.new (o := .dT (mergT T [])) hf) kt
    obtain ⟨o1, es, ep, g1, g2, g3, g4, g5, g6⟩ := hd'
    exact ⟨.ref s.heap.objs.size, upd H s.heap.objs.size (.dT (mergT T [])), I.laid (t' := tk) (fun b o e => k b o (by simp) e) (Nat.le_refl _) (show ObjOk X.prog X.w _ _ _ (.dT (mergT T [])) from ⟨hlen, hm, _, kt2, o1, es, ep, g1, g2, g3, g4, g6⟩), rfl, q _ hf⟩
end
def pairT : D → Option (List Key × D)
  | .tuple [k, d] => match keyTOf k with
    | some ks => some (ks, d)
    | none => none
  | _ => none
def pairsT : List D → Option (List (List Key × D))
  | [] => some []
  | p :: r => match pairT p, pairsT r with
    | some q, some qs => some (q :: qs)
    | _, _ => none
def mergD (qs : List (List Key × D)) (acc : List (List Key × D)) : List (List Key × D) := qs.foldl (fun acc q => put acc q.1 q.2) acc
def dictPTF (Γ : Gam) (vs : List Val) : R Val := match vs with
  | [v] => match viewD Γ v with
    | some (.list ds) => match pairsT ds with
      | some qs => .ok (.n (.oT (mergD qs []))) Γ
      | none => .stuck
    | _ => .stuck
  | _ => .stuck
theorem pairT_some {p : D} {q : List Key × D} (h : pairT p = some q) : ∃ k, p = .tuple [k, q.2] ∧ keyTOf k = some q.1 := by
  unfold pairT at h
  split at h
  · split at h
    · rename_i k d ks e
      cases h
      exact ⟨_, rfl, e⟩
    · cases h
  · cases h
theorem pairs_rep {cls : Str → Addr} {F : Hp} : ∀ {vs : List V} {ds : List D} {qs : List (List Key × D)}, RepAll cls F vs ds → pairsT ds = some qs →
    ∃ T : List PT4, vs = T.map (fun t => V.ref t.1) ∧ (∀ t ∈ T, Rd F t.1 (.tup [.ref t.2.1, t.2.2.2]) ∧ F t.2.1 = some (.tup (t.2.2.1.map kV))) ∧ T.map (fun t => t.2.2.1) = qs.map (·.1) ∧ RepAll cls F (T.map fun t => t.2.2.2) (qs.map (·.2))
  | _, _, _, .nil, h => by
    cases h
    exact ⟨[], rfl, fun _ h => by simp at h, rfl, .nil⟩
  | v :: vs, d :: ds, qs, .cons r rs, h => by
    simp only [pairsT] at h
    split at h
    · rename_i q qs' e1 e2
      cases h
      obtain ⟨T, h1, h2, h3, h4⟩ := pairs_rep rs e2
      obtain ⟨k, rfl, ek⟩ := pairT_some e1
      obtain ⟨p, ws, rfl, hp, rw⟩ := Rep.invU r
      cases rw with
      | cons ra rw =>
        cases rw with
        | cons rb rw =>
          cases rw
          obtain ⟨b, rfl, hb⟩ := rep_keyT ra ek
          refine ⟨(p, b, q.1, _) :: T, by simp [h1], fun t ht => ?_, by simp [h3], .cons rb h4⟩
          rcases List.mem_cons.mp ht with rfl | ht
          · exact ⟨hp, hb⟩
          · exact h2 t ht
    · cases h
theorem merg_rep {cls : Str → Addr} {F : Hp} : ∀ {T : List PT4} {qs : List (List Key × D)} {kvs : List (List Key × V)} {kds : List (List Key × D)}, T.map (fun t => t.2.2.1) = qs.map (·.1) → RepAll cls F (T.map fun t => t.2.2.2) (qs.map (·.2)) →
    kvs.map (·.1) = kds.map (·.1) → RepAll cls F (kvs.map (·.2)) (kds.map (·.2)) → (mergT T kvs).map (·.1) = (mergD qs kds).map (·.1) ∧ RepAll cls F ((mergT T kvs).map (·.2)) ((mergD qs kds).map (·.2))
  | [], [], kvs, kds, _, _, h1, h2 => ⟨h1, h2⟩
  | [], _ :: _, _, _, h, _, _, _ => by simp at h
  | _ :: _, [], _, _, h, _, _, _ => by simp at h
  | t :: T, q :: qs, kvs, kds, h, r, h1, h2 => by
    simp only [List.map_cons, List.cons.injEq] at h
    obtain ⟨e, h⟩ := h
    cases r with
    | cons r1 r2 =>
      have k1 := put_keys (α := V) (β := D) h1 t.2.2.1 t.2.2.2 q.2
      have k2 := put_rep (cls := cls) (F := F) h1 h2 t.2.2.1 r1
      have := merg_rep (kvs := put kvs t.2.2.1 t.2.2.2) (kds := put kds t.2.2.1 q.2) h r2 k1 k2
      show (mergT T (putK kvs t.2.2.1 t.2.2.2)).map (·.1) = (mergD qs (put kds q.1 q.2)).map (·.1) ∧ RepAll cls F ((mergT T (putK kvs t.2.2.1 t.2.2.2)).map (·.2)) ((mergD qs (put kds q.1 q.2)).map (·.2))
      rw [putK_put, ← e]
      exact this
theorem cs_dictPT {M : Pm} : CallS M (rDictPT M.K) dictPTF := by
  intro E Γ σ F0 H0 own0 F H own xs as Q s st r p
  unfold dictPTF at p
  split at p
  · cases r with
    | cons r1 r2 =>
      cases r2
      split at p
      · rename_i ds hv
        split at p
        · rename_i qs hq
          obtain ⟨l, vs, rfl, h1, h2⟩ := view_list s r1 hv
          obtain ⟨T, rfl, k2, k3, k4⟩ := pairs_rep h2 hq
          refine ⟨l, T, rfl, h1, fun t ht => ⟨.inl (rd_up s.fh (k2 t ht).1), s.fh _ _ (k2 t ht).2⟩, fun q hq' => ?_⟩
          obtain ⟨m1, m2⟩ := merg_rep (kvs := []) (kds := []) k3 k4 rfl .nil
          exact post_newO s st p hq' ⟨q, _, rfl, fun _ => .rfl, upd_same, m1, m2⟩
        · exact p.elim
      · exact p.elim
  · exact p.elim
end DL
end

section
set_option Elab.async false
set_option linter.all false
set_option maxRecDepth 100000
set_option maxHeartbeats 1000000
/-! DL18: a, b, c = x, y, z. -/
namespace DL
open PySem PySem.Spec PyProof.Rows L2
def par3M (i j l : Nat) (ms : Gam → R (List D)) : Gam → RS := fun Γ => stm (ms Γ) fun ds Γ1 => match ds with
  | [d, d', d''] => if i < Γ1.length ∧ j < Γ1.length ∧ l < Γ1.length then .nx (((Γ1.set i (.val d)).set j (.val d')).set l (.val d'')) else .stuck
  | _ => .stuck
section
variable {X : Cx} {M : Pm} {E : XK} {a b c : Expr} {pos : Pos}
theorem s_par3 {i j l : Nat} {x y z : Str} {ms : Gam → R (List D)} {px py pz pt : Pos} {kt k2 pt2} (hc : X.calm = true) (hN : X.N.Nodup) (hi : X.N[i]? = some x) (hj : X.N[j]? = some y) (hl : X.N[l]? = some z) (hij : i ≠ j) (hil : i ≠ l) (hjl : j ≠ l)
    (hx : X.env.scope.names.lookup x = some .local) (hy : X.env.scope.names.lookup y = some .local) (hz : X.env.scope.names.lookup z = some .local) (ha : PA X [a, b, c] (tFs M E ms))
    (hw : swappedStores [.Tuple [.Name x px, .Name y py, .Name z pz] kt pt] (.Tuple [a, b, c] k2 pt2) X.env = pure (some [x, y, z]))
    (hs : swapsWithSole [.Tuple [.Name x px, .Name y py, .Name z pz] kt pt] (.Tuple [a, b, c] k2 pt2) pos.line X.env = pure false := by rfl) :
    PS X (.Assign [.Tuple [.Name x px, .Name y py, .Name z pz] kt pt] (.Tuple [a, b, c] k2 pt2) pos) (tS M E (par3M i j l ms)) := PS_weak (ps_par3 hc hN hi hj hl hij hil hjl hx hy hz ha hw hs) fun D σ H ⟨Γ, F, own, s, p⟩ =>
  ⟨Γ, F, own, s, post_stm p fun F1 H1 own1 Γ1 xs ds _ s1 st1 r p1 => by
    split at p1
    · split at p1
      · rename_i hl
        cases r with
        | cons r1 r =>
          cases r with
          | cons r2 r =>
            cases r with
            | cons r3 r =>
              cases r
              have q1 := s1.setv hl.1 r1
              have q2 := q1.1.setv (i := j) (by simp; exact hl.2.1) r2
              have q3 := q2.1.setv (i := l) (by simp; exact hl.2.2) r3
              exact ⟨_, _, _, rfl, p1 _ F1 H1 _ q3.1 (((st1.trans q1.2).trans q2.2).trans q3.2)⟩
      · exact p1.elim
    · exact p1.elim⟩
/-! ### (a, b) = a tuple or a list -/
theorem pg_or {e : Expr} {t1 t2 : TG} (h1 : PG X e t1) (h2 : PG X e t2) : PG X e (fun v σ H Q => t1 v σ H Q ∨ t2 v σ H Q) := ⟨fun pins s σ H v u Q I r hw => by
  rcases hw with hw | hw
  · exact h1.run pins s σ H v u Q I r hw
  · exact h2.run pins s σ H v u Q I r hw⟩
def tgTL (n : Nat) (u : List D → Gam → Option Gam) (d : D) (Γ : Gam) : Option Gam := match d with
  | .tuple ds => if ds.length = n then u ds Γ else none
  | .list ds => if ds.length = n then u ds Γ else none
  | _ => none
theorem g_tupL {es : List Expr} {k n : Nat} {ts : List Nat} {u : List D → Gam → Option Gam} (hK : X.K = M.K) (hc : X.calm = true) (h : PGs X es (tGts M ts u)) (hn : (assignEach es X.env).length = n := by rfl) (hst : (assignEach es X.env).findIdx? (·.1) = none := by rfl) :
    PG X (.Tuple es k pos) (tGt M ts (tgTL n u)) := PG_weak (pg_or (pg_tup hc h hn hst) (pg_unl hc h hn hst)) fun v σ H Q ⟨Γ, F, own, d, s, r, h⟩ => by
  unfold tgTL at h
  cases d with
  | tuple ds =>
    obtain ⟨a, vs, rfl, h1, h2⟩ := Rep.invU r
    simp only at h
    split at h
    · rename_i Γ' hg
      split at hg
      · rename_i hl
        refine .inl ⟨a, vs, rfl, .inl (rd_up s.fh h1), by rw [h2.length]; exact hl, Γ, F, own, ds, s, h2, ?_⟩
        rw [hg]
        exact h
      · cases hg
    · exact h.elim
  | list ds =>
    obtain ⟨a, vs, rfl, h1, h2⟩ := Rep.invL r
    simp only at h
    split at h
    · rename_i Γ' hg
      split at hg
      · rename_i hl
        refine .inr ⟨a, vs, rfl, .inl (.inl (s.fh _ _ h1)), by rw [h2.length]; exact hl, Γ, F, own, ds, s, h2, ?_⟩
        rw [hg]
        exact h
      · cases hg
    · exact h.elim
  | _ => exact h.elim
end
end DL
end

section
set_option Elab.async false
set_option linter.all false
set_option maxRecDepth 100000
set_option maxHeartbeats 1000000
/-! DL19: d.get(k), for k, v in d.items(), for v in d.values(). -/
namespace DL
open PySem PySem.Spec PyProof.Rows L2
def getM (mo me : Gam → R Val) : Gam → R Val := fun Γ => (rd mo Γ).bind fun v Γ1 => match viewK Γ1 v with
  | some _ => (rd me Γ1).bind fun u Γ2 => match u with
    | .f kd => match keyOf kd with
      | some k => match viewK Γ2 v with
        | some kds => .ok (.f ((look kds k).getD .none)) Γ2
        | none => .stuck
      | none => .stuck
    | _ => .stuck
  | none => .stuck
section
variable {X : Cx} {M : Pm} {E : XK} {o e : Expr} {mo me : Gam → R Val} {apos pos : Pos}
theorem e_get (hu : X.A.units + 64 < cLine) (ho : PE X o (tE M E mo)) (he : PE X e (tE M E me)) (m : M1 X o "get" apos e pos) : PE X (.Call (.Attribute o "get" apos) [e] [] pos) (tE M E (getM mo me)) :=
  PE_weak (pe_dget1 (by omega) (pe_rd ho) (pe_rd he) m) fun σ H Q ⟨Γ, F, own, st, q⟩ => by
    refine ⟨Γ, F, own, st, post_bind q fun F1 H1 own1 Γ1 x v _ st1 s1 r1 p1 => ?_⟩
    split at p1
    · rename_i kds0 hv0
      obtain ⟨l, kvs0, rfl, h1, _, _⟩ := view_K st1 r1 hv0
      refine ⟨l, rfl, .inl ⟨kvs0, h1⟩, Γ1, F1, own1, st1, post_bind (p1.mono (back_V M) s1) fun F2 H2 own2 Γ2 y u _ st2 s2 r2 p2 => ?_⟩
      split at p2
      · rename_i kd
        split at p2
        · rename_i k hk
          split at p2
          · rename_i kds hv
            obtain ⟨l', kvs, e, h1, h2, h3⟩ := view_K st2 (ValRd.mono s2.ff r1) hv
            cases e
            obtain ⟨o, g, ro⟩ := dget_k h1 h2 h3 r2 hk
            refine ⟨o, g, ?_⟩
            cases o with
            | none =>
              cases eq : look kds k with
              | none =>
                rw [eq] at p2
                exact post_now st2 s2 p2 .non
              | some d =>
                rw [eq] at ro
                exact ro.elim
            | some w =>
              cases eq : look kds k with
              | none =>
                rw [eq] at ro
                exact ro.elim
              | some d =>
                rw [eq] at p2 ro
                exact post_now st2 s2 p2 ro
          · exact p2.elim
        · exact p2.elim
      · exact p2.elim
    · exact p1.elim
/-! ### loops over a dict that is known -/
def dicOf : D → Option (List (Key × D))
  | .dict ((.none, .int 3) :: r) => prsK r
  | _ => none
theorem dicOf_some {d : D} {kds : List (Key × D)} (h : dicOf d = some kds) : d = dicF kds := by
  unfold dicOf at h
  split at h
  · rw [prsK_some h]
    rfl
  · cases h
def itemsD (kds : List (Key × D)) : List D := kds.map fun p => .tuple [keyD p.1, p.2]
def itemsM (m : Gam → R Val) : Gam → R Src := fun Γ => (rd m Γ).bind fun v Γ1 => match v with
  | .f d => match dicOf d with
    | some kds => .ok ⟨itemsD kds, none⟩ Γ1
    | none => .stuck
  | _ => .stuck
def valuesM (m : Gam → R Val) : Gam → R Src := fun Γ => (rd m Γ).bind fun v Γ1 => match v with
  | .f d => match dicOf d with
    | some kds => .ok ⟨kds.map (·.2), none⟩ Γ1
    | none => .stuck
  | _ => .stuck
theorem kv_at {cls : Str → Addr} {F : Hp} {kvs : List (Key × V)} {kds : List (Key × D)} (h2 : kvs.map (·.1) = kds.map (·.1)) (h3 : RepAll cls F (kvs.map (·.2)) (kds.map (·.2))) {i : Nat} {k : Key} {v : V} (e : kvs[i]? = some (k, v)) : ∃ d, kds[i]? = some (k, d) ∧ Rep cls F v d := by
  have hl : kvs.length = kds.length := by simpa using congrArg List.length h2
  have hi : i < kvs.length := (List.getElem?_eq_some_iff.mp e).1
  have e2 : kds[i]? = some kds[i] := List.getElem?_eq_getElem (by omega)
  have k1 : (kvs.map (·.1))[i]? = some k := by simp [e]
  rw [h2] at k1
  simp [e2] at k1
  have r := h3.get i v kds[i].2 (by simp [e]) (by simp [e2])
  exact ⟨kds[i].2, by rw [e2, ← k1], r⟩
theorem rep_keyD {cls : Str → Addr} {F : Hp} : ∀ k : Key, Rep cls F (kV k) (keyD k)
  | .inl i => .int i
  | .inr s => .str s
theorem itd_items {σ : L2.St} {F : Hp} {a : Addr} {ob : Obj} {kvs : List (Key × V)} {kds : List (Key × D)} (h1 : F a = some (.frz ob (.dK kvs))) (h2 : kvs.map (·.1) = kds.map (·.1)) (h3 : RepAll M.cls F (kvs.map (·.2)) (kds.map (·.2))) : ItD M (Iti a ob kvs) σ F ⟨itemsD kds, none⟩ where
  go := fun i Γ σ F' H' own' hi' st e ok hs => by
    have hl : kvs.length = kds.length := by simpa using congrArg List.length h2
    simp only [itemsD, List.length_map] at hi'
    exact ⟨st.fh _ _ (e _ _ h1), by omega⟩
  stop := fun i Γ σ F' H' own' hi' st e ok hs => by
    have hl : kvs.length = kds.length := by simpa using congrArg List.length h2
    simp only [itemsD, List.length_map] at hi'
    exact ⟨st.fh _ _ (e _ _ h1), by omega⟩
  yld := fun i Γ σ F' H' own' x H'' hi' st e ok hs y => by
    obtain ⟨T, k, v, hk, rfl, hT, rfl⟩ := y
    obtain ⟨d, hd, rd⟩ := kv_at h2 h3 hk
    obtain ⟨g2, r2⟩ := rep_pair (M := M) (T := T) st.fh hT (rep_keyD (cls := M.cls) k) (rd.mono e)
    refine ⟨_, _, g2, ?_, r2⟩
    simp [itemsD, hd]
theorem itd_values {σ : L2.St} {F : Hp} {a : Addr} {ob : Obj} {kvs : List (Key × V)} {kds : List (Key × D)} (h1 : F a = some (.frz ob (.dK kvs))) (h2 : kvs.map (·.1) = kds.map (·.1)) (h3 : RepAll M.cls F (kvs.map (·.2)) (kds.map (·.2))) : ItD M (Itd a ob kvs) σ F ⟨kds.map (·.2), none⟩ where
  go := fun i Γ σ F' H' own' hi' st e ok hs => by
    have hl : kvs.length = kds.length := by simpa using congrArg List.length h2
    simp only [List.length_map] at hi'
    exact ⟨st.fh _ _ (e _ _ h1), by omega⟩
  stop := fun i Γ σ F' H' own' hi' st e ok hs => by
    have hl : kvs.length = kds.length := by simpa using congrArg List.length h2
    simp only [List.length_map] at hi'
    exact ⟨st.fh _ _ (e _ _ h1), by omega⟩
  yld := fun i Γ σ F' H' own' x H'' hi' st e ok hs y => by
    obtain ⟨rfl, k, hk⟩ := y
    obtain ⟨d, hd, rd⟩ := kv_at h2 h3 hk
    exact ⟨F', d, .refl st.fh, by simp [hd], rd.mono e⟩
theorem i_items {elts : List Expr} {kk : Nat} {tpos : Pos} (he : PE X e (tE M E me)) (hbase : attributeBase e "items" X.env (eval e X.env) = eval e X.env := by rfl) (hline : (apos.endLine == pos.line) = true := by rfl) :
    PI X (.Tuple elts kk tpos) (.Call (.Attribute e "items" apos) [] [] pos) (tI M E (itemsM me)) := PI_weak (pi_items (pe_rd he) hbase hline) fun σ H R' ⟨Γ, F, own, s, q⟩ => by
  refine ⟨Γ, F, own, s, post_srcb q fun F1 H1 own1 Γ1 x a st1 s1 r1 p1 => ?_⟩
  split at p1
  · rename_i d
    split at p1
    · rename_i kds hk
      have r0 : Rep M.cls F1 x d := r1
      rw [dicOf_some hk] at r0
      obtain ⟨l, ob, kvs, rfl, h1, h2, h3⟩ := Rep.invF r0
      exact ⟨l, ob, kvs, rfl, st1.fh _ _ h1, p1 F1 H1 own1 _ st1 s1 (itd_items h1 h2 h3) (fun _ _ h => by simp at h)⟩
    · exact p1.elim
  · exact p1.elim
theorem i_values {tg : Expr} (he : PE X e (tE M E me)) (hbase : attributeBase e "values" X.env (eval e X.env) = eval e X.env := by rfl) (hline : (apos.endLine == pos.line) = true := by rfl) :
    PI X tg (.Call (.Attribute e "values" apos) [] [] pos) (tI M E (valuesM me)) := PI_weak (pi_values (pe_rd he) hbase hline) fun σ H R' ⟨Γ, F, own, s, q⟩ => by
  refine ⟨Γ, F, own, s, post_srcb q fun F1 H1 own1 Γ1 x a st1 s1 r1 p1 => ?_⟩
  split at p1
  · rename_i d
    split at p1
    · rename_i kds hk
      have r0 : Rep M.cls F1 x d := r1
      rw [dicOf_some hk] at r0
      obtain ⟨l, ob, kvs, rfl, h1, h2, h3⟩ := Rep.invF r0
      exact ⟨l, ob, kvs, rfl, st1.fh _ _ h1, p1 F1 H1 own1 _ st1 s1 (itd_values h1 h2 h3) (fun _ _ h => by simp at h)⟩
    · exact p1.elim
  · exact p1.elim
end
end DL
end

section
set_option Elab.async false
set_option linter.all false
set_option maxRecDepth 100000
set_option maxHeartbeats 1000000
/-! DL20: [*xs, y]. -/
namespace DL
open PySem PySem.Spec PyProof.Rows L2
open StX (pa_star)
def starD (m : Gam → R Val) (md : Gam → R (List D)) : Gam → R (List D) := fun Γ => (rd m Γ).bind fun v Γ1 => match viewD Γ1 v with
  | some (.list ds) => (md Γ1).bind fun es Γ2 => .ok (ds ++ es) Γ2
  | some (.tuple ds) => (md Γ1).bind fun es Γ2 => .ok (ds ++ es) Γ2
  | _ => .stuck
section
variable {X : Cx} {M : Pm} {E : XK} {e : Expr} {es : List Expr} {m : Gam → R Val} {md : Gam → R (List D)} {p : Pos}
theorem d_star (hK : X.K = M.K) (he : PE X e (tE M E m)) (hr : PA X es (tFs M E md)) (hs : starEach (.Starred e p :: es) X.env = (true, eval e X.env) :: starEach es X.env := by rfl) : PA X (.Starred e p :: es) (tFs M E (starD m md)) :=
  PA_weak (pa_star (pe_rd he) hr hs) fun σ H Q ⟨Γ, F, own, st, q⟩ => by
    refine ⟨Γ, F, own, st, post_bind q fun F1 H1 own1 Γ1 x a _ st1 s1 r1 p1 => ?_⟩
    rw [hK]
    split at p1
    · rename_i ds hv
      obtain ⟨l, vs, rfl, h1, h2⟩ := view_list st1 r1 hv
      refine ⟨l, vs, rfl, .inr h1, Γ1, F1, own1, st1, post_bind (p1.mono (fun _ _ _ _ _ _ _ _ _ r => r) s1) fun F2 H2 own2 Γ2 ys es' _ st2 s2 r2 p2 => ?_⟩
      exact p2 _ F2 H2 own2 st2 s2 ((RepAll.mono s2.ff h2).append r2)
    · rename_i ds hv
      obtain ⟨l, vs, rfl, _, h1, h2⟩ := view_tup st1 r1 hv
      refine ⟨l, vs, rfl, .inl h1, Γ1, F1, own1, st1, post_bind (p1.mono (fun _ _ _ _ _ _ _ _ _ r => r) s1) fun F2 H2 own2 Γ2 ys es' _ st2 s2 r2 p2 => ?_⟩
      exact p2 _ F2 H2 own2 st2 s2 ((RepAll.mono s2.ff h2).append r2)
    · exact p1.elim
end
end DL
end

section
set_option Elab.async false
set_option linter.all false
set_option maxRecDepth 100000
set_option maxHeartbeats 1000000
/-! DL21: calls of a def by keywords alone. -/
namespace DL
open PySem PySem.Spec PyProof.Rows L2
def permL {α : Type} (perm : List Nat) (ws : List α) : List α := perm.filterMap fun i => ws[i]?
theorem vals_at : ∀ {zs : List V} {ws : List Value}, Vals zs ws → ∀ i : Nat, (zs[i]? = none ∧ ws[i]? = none) ∨ ∃ z u, zs[i]? = some z ∧ ws[i]? = some u ∧ RelV z u
  | _, _, .nil, i => .inl ⟨by simp, by simp⟩
  | _, _, .cons r t, 0 => .inr ⟨_, _, rfl, rfl, r⟩
  | _, _, .cons r t, i + 1 => by simpa using vals_at t i
theorem vals_perm {zs : List V} {ws : List Value} (r : Vals zs ws) : ∀ perm : List Nat, Vals (permL perm zs) (permL perm ws)
  | [] => .nil
  | i :: p => by
    have ih := vals_perm r p
    rcases vals_at r i with ⟨h1, h2⟩ | ⟨z, u, h1, h2, h3⟩
    · unfold permL at ih ⊢
      rw [List.filterMap_cons_none h1, List.filterMap_cons_none h2]
      exact ih
    · unfold permL at ih ⊢
      rw [List.filterMap_cons_some h1, List.filterMap_cons_some h2]
      exact .cons h3 ih
theorem rep_perm {cls : Str → Addr} {F : Hp} {zs : List V} {ds : List D} (r : RepAll cls F zs ds) : ∀ perm : List Nat, RepAll cls F (permL perm zs) (permL perm ds)
  | [] => .nil
  | i :: p => by
    have ih := rep_perm r p
    cases h : zs[i]? with
    | none =>
      have h2 : ds[i]? = none := by
        rw [List.getElem?_eq_none_iff] at h ⊢
        rw [← r.length]
        exact h
      unfold permL at ih ⊢
      rw [List.filterMap_cons_none h, List.filterMap_cons_none h2]
      exact ih
    | some v =>
      obtain ⟨d, h2, h3⟩ := r.at' i v h
      unfold permL at ih ⊢
      rw [List.filterMap_cons_some h, List.filterMap_cons_some h2]
      exact .cons h3 ih
theorem kbindsN {K : PySem.W.Frag} {x qual : Str} {params : Arguments} {body : List Stmt} {scope : Scope} {f : Addr} {fd : FuncData} {ps : List Str} (F : FunD K x qual params body scope [] [] f fd) (n : Nat) (ks : List Str) (perm : List Nat)
    (h : ∀ (kV doc pm : Value) (an : Option Addr) (cdv ct : Value) (us ws : List Value), us.length = n → ws.length = ks.length → bindArgs (PySem.W.fnOf x qual params body scope .none kV doc pm an cdv ct) ⟨us, ks.zip ws⟩ = pure (ps.zip (us ++ permL perm ws))) :
    KBn K fd ps n ks (fun us ws => us ++ permL perm ws) (fun vs zs => vs ++ permL perm zs) := by
  obtain ⟨oc, od, dV, kV, doc, pm, an, cdv, ct, osl, rfl, lk, hcd, hD, hK⟩ := F.ex
  rcases hD with ⟨_, rfl⟩ | ⟨e, _⟩
  · exact ⟨fun s us ws _ l1 l2 => .of_eq (h kV doc pm an cdv ct us ws l1 l2), fun r1 r2 => r1.append (vals_perm r2 perm)⟩
  · exact absurd rfl e
section
variable {X : Cx} {CX : CXT} {k : Nat} {f C : Addr} {fd : FuncData} {ps ks : List Str} {sp : Sp} {E : XK} {x : Str} {p pos : Pos} {kws : List Keyword} {tk : TA} {g : List Value → List Value → List Value} {gV : List V → List V → List V}
/-- x(k = v, ..), x a def -/
theorem pe_callK0 (F : FnOk X.prog X.w X.K X.mg X.base CX k f fd ps sp) (hr : Room k X.A) (hg : Gl X x) (hm : X.mg x = some (.ref f)) (hk : PySem.W.keepIn X.K (.ref f) = true) (hb : KBn X.K fd ps 0 ks g gV) (hx : Passes CX X E)
    (hkw : PK X kws tk) (hall : (backToKw pos (keywordEach kws X.env)).all (·.1.isSome) = true := by rfl) (hks : (backToKw pos (keywordEach kws X.env)).filterMap (·.1) = ks := by rfl)
    (hdb : (x == ("__debug__" : Str)) = false := by decide)
    (hpl : ((backTo pos (starEach [] X.env)).any (·.1) || (backToKw pos (keywordEach kws X.env)).any (·.1.isNone)) = false := by rfl) :
    PE X (.Call (.Name x p) [] kws pos) (fun σ H Q => tk σ H fun zs H2 => zs.length = ks.length ∧ sp (gV [] zs) H2 Q E) := by
  refine ⟨fun pins s σ H Q I h => ?_⟩
  refine wpAny_Call_Name_kw (ld_glob I hg hm ?_ hdb)
  refine PySem.W.callWith_KW0 (h₀ := X.base) I.ok.mod.kin hk hall ?_ hpl
  refine thn (hkw.run pos pins s σ H _ I h) fun ws s2 ⟨zs, H2, I2, rz, l2, q2⟩ => ⟨I2.kIn, ?_⟩
  rw [hks]
  have r2 := hb.rel (us := []) (vs := []) .nil rz
  have hl : (g [] ws).length = ps.length := by
    rw [← r2.length]
    exact F.len _ _ _ _ q2
  refine wpAny_call (codeAny_mono (F.run X.A X.stack s2 H2 ⟨[], ks.zip ws⟩ (g [] ws) (gV [] zs) Q E hr I2.env0 (hb.to s2 [] ws I2.kIn rfl (rz.length.symm.trans l2)) r2 q2) fun r s' hq => ?_)
  cases r with
  | error e => exact hx pins σ H2 s2 e s' I2 hq
  | ok fl =>
    cases fl with
    | ret u => exact I2.after hq
    | next => exact False.elim hq
    | brk => exact False.elim hq
    | cont => exact False.elim hq
end
/-! ### keyword arguments as data -/
section
variable {X : Cx} {M : Pm} {E : XK} {e : Expr} {m : Gam → R Val} {md : Gam → R (List D)} {kws : List Keyword} {nm : Option Str} {p pos kpos : Pos} {x : Str} {k : Nat} {cls : Str → Addr} {a0 : Option Addr} {ks : List Str} {perm : List Nat} {g : List Slot → R Val}
theorem PK_weak {t t' : TA} (h : PK X kws t) (w : ∀ σ H Q, t' σ H Q → t σ H Q) : PK X kws t' := ⟨fun pos pins s σ H Q I q => h.run pos pins s σ H Q I (w σ H Q q)⟩
theorem k_nil : PK X [] (tFs M E nilD) := PK_weak pk_nil fun σ H Q q => by
  obtain ⟨Γ, F, own, st, p⟩ := q
  exact p [] F H own st (.refl _ _ _) .nil
theorem k_cons (ha : PE X e (tE M E m)) (hr : PK X kws (tFs M E md)) : PK X (⟨nm, e, kpos⟩ :: kws) (tFs M E (consD m md)) := PK_weak (pk_cons (pe_fz ha) hr) fun σ H Q q => by
  obtain ⟨Γ, F, own, st, p⟩ := q
  refine ⟨Γ, F, own, st, post_bind p fun F1 H1 own1 Γ1 x va _ st1 s1 r1 p1 => ⟨Γ1, F1, own1, st1, post_bind (p1.mono (fun _ _ _ _ _ _ _ _ _ r => r) s1) fun F2 H2 own2 Γ2 xs vs _ st2 s2 r2 p2 => ?_⟩⟩
  exact p2 _ F2 H2 own2 st2 s2 (.cons (Rep.mono s2.ff r1) r2)
def callKM (g : List Slot → R Val) (n : Nat) (perm : List Nat) (md : Gam → R (List D)) : Gam → R Val := fun Γ => (md Γ).bind fun ds Γ1 => if ds.length = n then callV g Γ1 ((permL perm ds).map Val.f) else .stuck
/-- what a caller by keywords takes of a def -/
def FnK (P : Program) (w : World) (K : PySem.W.Frag) (mg : Str → Option Value) (base : Heap) (cls : Str → Addr) (x : Str) (k : Nat) (g : List Slot → R Val) (ks : List Str) (perm : List Nat) : Prop :=
  ∃ f fd ps, FnOk P w K mg base (L2.CX P w) k f fd ps (spG ⟨K, cls, none⟩ g) ∧ mg x = some (.ref f) ∧ PySem.W.keepIn K (.ref f) = true ∧ KBn K fd ps 0 ks (fun us ws => us ++ permL perm ws) (fun vs zs => vs ++ permL perm zs)
theorem valsRd_fs {σ : L2.St} {F : Hp} : ∀ {xs : List V} {ds : List D}, RepAll M.cls F xs ds → ValsRd M σ F xs (ds.map Val.f)
  | _, _, .nil => .nil
  | _, _, .cons h r => .cons h (valsRd_fs r)
theorem e_callKC (C : FnK X.prog X.w X.K X.mg X.base cls x k g ks perm) (hr : Room k X.A) (hg : Gl X x) (hx : Passes (L2.CX X.prog X.w) X E) (ha : PK X kws (tFs ⟨X.K, cls, a0⟩ E md))
    (hall : (backToKw pos (keywordEach kws X.env)).all (·.1.isSome) = true := by rfl) (hks : (backToKw pos (keywordEach kws X.env)).filterMap (·.1) = ks := by rfl) (hdb : (x == ("__debug__" : Str)) = false := by decide)
    (hpl : ((backTo pos (starEach [] X.env)).any (·.1) || (backToKw pos (keywordEach kws X.env)).any (·.1.isNone)) = false := by rfl) : PE X (.Call (.Name x p) [] kws pos) (tE ⟨X.K, cls, a0⟩ E (callKM g ks.length perm md)) := by
  obtain ⟨f, fd, ps, F, hm, hk, hb⟩ := C
  refine PE_weak (pe_callK0 F hr hg hm hk hb hx ha hall hks hdb hpl) fun σ H Q ⟨Γ, Fh, own, st, q⟩ => ?_
  refine ⟨Γ, Fh, own, st, post_bind q fun F1 H1 own1 Γ1 zs ds _ st1 s1 r1 p1 => ?_⟩
  split at p1
  · rename_i hl
    refine ⟨by rw [← hl]; exact r1.length, ?_⟩
    exact callV_ok (M := ⟨X.K, cls, a0⟩) st1 s1 (valsRd_fs (rep_perm r1 perm)) p1
  · exact p1.elim
end
end DL
end

section
set_option Elab.async false
set_option linter.all false
set_option maxRecDepth 100000
set_option autoImplicit false
set_option maxHeartbeats 1000000
/-! DL22: list(zip(t, u)) of two tuples, list(d.values()). -/
namespace DL
open PySem PySem.Spec PyProof.Rows L2
open PySem.W (kdx_alive KdxG)
section
variable {prog : Program} {w : World} {A : Around} {E : Value → Shared → Prop} {s : Shared}
theorem zt_next_item_held {z TI TO T i1 i2 l1 l2 : Addr} {f : Bool} {oT : Obj} {k1 k2 : Nat} {xs ys : Array Value} {x y : Value} {Q : Value → Shared → Prop} (D : ZipApart z TI TO i1 i2 l1 l2)
    (hz : IsZipHeld s.heap z TI TO T f) (hT : s.heap.get? T = some oT) (hTI : IsPair s.heap TI (.ref i1) (.ref i2))
    (h1 : s.heap.IsTupleIter i1 l1 k1) (h2 : s.heap.IsTupleIter i2 l2 k2) (hl1 : s.heap.IsTuple l1 xs) (hl2 : s.heap.IsTuple l2 ys) (hx : xs[k1]? = some x) (hy : ys[k2]? = some y)
    (hQ : ∀ h', IsZipHeld h' z TI TO T true → h'.IsTupleIter i1 l1 (k1 + 1) → h'.IsTupleIter i2 l2 (k2 + 1) → IsPair h' s.heap.objs.size x y → h'.objs.size = s.heap.objs.size + 1 →
      (∀ c o, c ≠ z → c ≠ i1 → c ≠ i2 → s.heap.get? c = some o → h'.get? c = some o) → Q (.ref s.heap.objs.size) { s with heap := h' }) :
    wpAny (model prog w) A (Builtin.«zip.__next__» ⟨[.ref z], []⟩) (fun fin s' => ∃ v, fin = .done (.ret v) ∧ Q v s') E s := by
  show wpAny _ _ (field (.ref z) 2 >>= _) _ _ _
  refine wpAny_bind (wpAny_field hz rfl (x := .bool false) rfl ?_)
  show wpAny _ _ (field (.ref z) 3 >>= _) _ _ _
  refine wpAny_bind (wpAny_field hz rfl (x := .ref TI) rfl ?_)
  refine wpAny_bind (wpAny_seqItems hTI rfl ?_)
  show wpAny _ _ (Builtin.SmallTypes.ownedTupleIsFree (.ref z) >>= _) _ _ _
  refine wpAny_bind (wpAny_tupleHeld_zip hz hT fun h₁ hz₁ hs₁ => ?_)
  simp only [Bool.false_eq_true, if_false]
  refine wpAny_bind ?_
  rw [← Array.forIn_toList]
  simp only [List.forIn_cons, List.forIn_nil]
  refine wpAny_bind (wpAny_bind (wpAny_holding ?_))
  show wpAny _ _ (Builtin.SmallTypes.nextOf (.ref i1) >>= _) _ _ _
  refine wpAny_bind (RZ.nextOf_tuple_item (s := { s with heap := h₁ }) (h1.extBut hs₁.extBut D.i1z) (hl1.extBut hs₁.extBut D.l1z) hx fun h₂ h1₂ hs₂ => wpAny_pure ?_)
  refine wpAny_pure ?_
  refine wpAny_bind (wpAny_bind (wpAny_holding ?_))
  show wpAny _ _ (Builtin.SmallTypes.nextOf (.ref i2) >>= _) _ _ _
  refine wpAny_bind (RZ.nextOf_tuple_item (s := { s with heap := h₂ }) ((h2.extBut hs₁.extBut D.i2z).extBut hs₂.extBut D.i12.symm) ((hl2.extBut hs₁.extBut D.l2z).extBut hs₂.extBut D.l2i1) hy fun h₃ h2₃ hs₃ => wpAny_pure ?_)
  refine wpAny_pure (wpAny_pure ?_)
  show wpAny _ _ (newTuple [x, y] >>= _) _ _ _
  refine wpAny_bind (wpAny_newTuple ?_)
  have hsz : h₃.objs.size = s.heap.objs.size := by rw [hs₃.1, hs₂.1, hs₁.1]
  have hz₃ : IsZipHeld h₃ z TI TO T true := hs₃.extBut _ _ D.i2z.symm (hs₂.extBut _ _ D.i1z.symm hz₁)
  have hk : ∀ c o, c ≠ z → c ≠ i1 → c ≠ i2 → s.heap.get? c = some o → h₃.get? c = some o := fun c o c1 c2 c3 e => hs₃.extBut _ _ c3 (hs₂.extBut _ _ c2 (hs₁.extBut _ _ c1 e))
  have h1₃ : h₃.IsTupleIter i1 l1 (k1 + 1) := h1₂.extBut hs₃.extBut D.i12
  refine wpAny_pure ⟨_, rfl, ?_⟩
  show Q (.ref h₃.objs.size) _
  have hp : IsPair (h₃.push { cls := .type "tuple", data := .seq #[x, y] }) h₃.objs.size x y := Heap.get?_push_size _ rfl
  have hz4 : (h₃.push { cls := .type "tuple", data := .seq #[x, y] }).objs.size = h₃.objs.size + 1 := Heap.size_push ..
  rw [hsz] at hp hz4 ⊢
  exact hQ _ (Heap.get?_push_of_some _ hz₃) (h1₃.at fun o e => Heap.get?_push_of_some _ e) (h2₃.at fun o e => Heap.get?_push_of_some _ e) hp hz4 fun c o c1 c2 c3 e => Heap.get?_push_of_some _ (hk c o c1 c2 c3 e)

theorem zt_next_end_held {z TI TO T i1 i2 l1 l2 : Addr} {f : Bool} {oT : Obj} {k1 k2 : Nat} {xs ys : Array Value} {Q : PySem.Fin → Shared → Prop} (hh : A.handled = none) (D : ZipApart z TI TO i1 i2 l1 l2)
    (hz : IsZipHeld s.heap z TI TO T f) (hT : s.heap.get? T = some oT) (hTI : IsPair s.heap TI (.ref i1) (.ref i2))
    (h1 : s.heap.IsTupleIter i1 l1 k1) (h2 : s.heap.IsTupleIter i2 l2 k2) (hl1 : s.heap.IsTuple l1 xs) (hl2 : s.heap.IsTuple l2 ys) (hend : xs[k1]? = none ∨ ys[k2]? = none)
    (hE : ∀ h' e, (∀ c o, c ≠ z → c ≠ i1 → c ≠ i2 → s.heap.get? c = some o → h'.get? c = some o) → (∃ o, h'.get? e = some o ∧ o.cls = .type "StopIteration") → E (.ref e) { s with heap := h' }) :
    wpAny (model prog w) A (Builtin.«zip.__next__» ⟨[.ref z], []⟩) Q E s := by
  show wpAny _ _ (field (.ref z) 2 >>= _) _ _ _
  refine wpAny_bind (wpAny_field hz rfl (x := .bool false) rfl ?_)
  show wpAny _ _ (field (.ref z) 3 >>= _) _ _ _
  refine wpAny_bind (wpAny_field hz rfl (x := .ref TI) rfl ?_)
  refine wpAny_bind (wpAny_seqItems hTI rfl ?_)
  show wpAny _ _ (Builtin.SmallTypes.ownedTupleIsFree (.ref z) >>= _) _ _ _
  refine wpAny_bind (wpAny_tupleHeld_zip hz hT fun h₁ hz₁ hs₁ => ?_)
  simp only [Bool.false_eq_true, if_false]
  refine wpAny_bind ?_
  rw [← Array.forIn_toList]
  simp only [List.forIn_cons, List.forIn_nil]
  refine wpAny_bind (wpAny_bind (wpAny_holding ?_))
  show wpAny _ _ (Builtin.SmallTypes.nextOf (.ref i1) >>= _) _ _ _
  cases hx : xs[k1]? with
  | none =>
    refine wpAny_bind (RZ.nextOf_tuple_end (s := { s with heap := h₁ }) hh (h1.extBut hs₁.extBut D.i1z) (hl1.extBut hs₁.extBut D.l1z) hx fun h₂ e hs₂ he => ?_)
    exact hE h₂ e (fun c o c1 c2 _ x => hs₂ _ _ c2 (hs₁.extBut _ _ c1 x)) he
  | some x =>
    have hy : ys[k2]? = none := by rcases hend with h | h; rw [hx] at h; cases h; exact h
    refine wpAny_bind (RZ.nextOf_tuple_item (s := { s with heap := h₁ }) (h1.extBut hs₁.extBut D.i1z) (hl1.extBut hs₁.extBut D.l1z) hx fun h₂ h1₂ hs₂ => wpAny_pure ?_)
    refine wpAny_pure ?_
    refine wpAny_bind (wpAny_bind (wpAny_holding ?_))
    show wpAny _ _ (Builtin.SmallTypes.nextOf (.ref i2) >>= _) _ _ _
    refine wpAny_bind (RZ.nextOf_tuple_end (s := { s with heap := h₂ }) hh ((h2.extBut hs₁.extBut D.i2z).extBut hs₂.extBut D.i12.symm) ((hl2.extBut hs₁.extBut D.l2z).extBut hs₂.extBut D.l2i1) hy fun h₃ e hs₃ he => ?_)
    exact hE h₃ e (fun c o c1 c2 c3 x => hs₃ _ _ c3 (hs₂.extBut _ _ c2 (hs₁.extBut _ _ c1 x))) he

/-- a zip of two tuples, k pairs drawn, its own tuple free or held (not the list at S) -/
def ZtSt (h : Heap) (z TI TO i1 i2 l1 l2 S : Addr) (k : Nat) : Prop :=
  IsPair h TI (.ref i1) (.ref i2) ∧ h.IsTupleIter i1 l1 k ∧ h.IsTupleIter i2 l2 k ∧
  ((IsZip h z TI TO .none ∧ ∃ a b, IsPair h TO a b) ∨ ∃ T f oT, IsZipHeld h z TI TO T f ∧ h.get? T = some oT ∧ T ≠ z ∧ T ≠ i1 ∧ T ≠ i2 ∧ T ≠ S)
theorem ZtSt.keep {h h' : Heap} {z TI TO i1 i2 l1 l2 S : Addr} {k : Nat} (x : ZtSt h z TI TO i1 i2 l1 l2 S k) (hk : ∀ b o, b ≠ S → h.get? b = some o → h'.get? b = some o) (n1 : z ≠ S) (n2 : TI ≠ S) (n3 : TO ≠ S) (n4 : i1 ≠ S) (n5 : i2 ≠ S) : ZtSt h' z TI TO i1 i2 l1 l2 S k := by
  obtain ⟨q1, q2, q3, q⟩ := x
  refine ⟨hk _ _ n2 q1, q2.at fun o e => hk _ o n4 e, q3.at fun o e => hk _ o n5 e, ?_⟩
  rcases q with ⟨q4, a, b, q5⟩ | ⟨T, f, oT, q4, q5, q6, q7, q8, q9⟩
  · exact .inl ⟨hk _ _ n1 q4, a, b, hk _ _ n3 q5⟩
  · exact .inr ⟨T, f, oT, hk _ _ n1 q4, hk _ _ q9 q5, q6, q7, q8, q9⟩
theorem zt_item {z TI TO i1 i2 l1 l2 S : Addr} {k : Nat} {xs ys : Array Value} {x y : Value} {Q : Option Value → Shared → Prop} (D : ZipApart z TI TO i1 i2 l1 l2) (st : ZtSt s.heap z TI TO i1 i2 l1 l2 S k) (hS : S < s.heap.objs.size)
    (hl1 : s.heap.IsTuple l1 xs) (hl2 : s.heap.IsTuple l2 ys) (hx : xs[k]? = some x) (hy : ys[k]? = some y)
    (hQ : ∀ h', ZtSt h' z TI TO i1 i2 l1 l2 S (k + 1) → IsPair h' s.heap.objs.size x y → h'.objs.size = s.heap.objs.size + 1 → (∀ c o, c ≠ z → c ≠ TO → c ≠ i1 → c ≠ i2 → s.heap.get? c = some o → h'.get? c = some o) → Q (some (.ref s.heap.objs.size)) { s with heap := h' }) :
    wpAny (model prog w) A (pyNext (.ref z)) Q E s := by
  obtain ⟨q1, q2, q3, q⟩ := st
  rcases q with ⟨q4, a, b, q5⟩ | ⟨T, f, oT, q4, q5, q6, q7, q8, q9⟩
  · refine RZ.pyNext_zipT_item D q4 q1 q5 q2 q3 hl1 hl2 hx hy fun h' z' TO' h1' h2' hT hsz hk => ?_
    obtain ⟨_, e1, _⟩ := id q2
    obtain ⟨_, e2, _⟩ := id q3
    exact hQ h' ⟨hk _ _ D.TIz D.TITO D.TIi1 D.TIi2 q1, h1', h2', .inr ⟨_, false, _, z', hT, Nat.ne_of_gt (Heap.lt_size q4), Nat.ne_of_gt (Heap.lt_size e1), Nat.ne_of_gt (Heap.lt_size e2), Nat.ne_of_gt hS⟩⟩ hT hsz hk
  · have hTy : s.TypeIs (.ref z) "zip" := ⟨_, q4, rfl⟩
    unfold pyNext
    refine wpAny_bind (wpAny_attempt (wpAny_callSpecial?_slot (name := Str.ofString "__next__") hTy F.slot_zip_next
      (wpAny_call_entry F.slot_zip_next hTy F.entry_zip_next
        (zt_next_item_held D q4 q5 q1 q2 q3 hl1 hl2 hx hy fun h' a1 a3 a4 a5 a6 a7 => wpAny_pure (hQ h' ⟨a7 _ _ D.TIz D.TIi1 D.TIi2 q1, a3, a4, .inr ⟨T, true, oT, a1, a7 _ _ q6 q7 q8 q5, q6, q7, q8, q9⟩⟩ a5 a6 fun c o c1 _ c3 c4 e => a7 c o c1 c3 c4 e)) (F.args_zip_next_1 _))))
theorem zt_end {z TI TO i1 i2 l1 l2 S : Addr} {k : Nat} {xs ys : Array Value} {Q : Option Value → Shared → Prop} (hh : A.handled = none) (D : ZipApart z TI TO i1 i2 l1 l2) (st : ZtSt s.heap z TI TO i1 i2 l1 l2 S k)
    (hl1 : s.heap.IsTuple l1 xs) (hl2 : s.heap.IsTuple l2 ys) (hend : xs[k]? = none ∨ ys[k]? = none)
    (hQ : ∀ h', (∀ c o, c ≠ z → c ≠ TO → c ≠ i1 → c ≠ i2 → s.heap.get? c = some o → h'.get? c = some o) → Q none { s with heap := h' }) : wpAny (model prog w) A (pyNext (.ref z)) Q E s := by
  obtain ⟨q1, q2, q3, q⟩ := st
  rcases q with ⟨q4, a, b, q5⟩ | ⟨T, f, oT, q4, q5, q6, q7, q8, q9⟩
  · exact RZ.pyNext_zipT_end hh D q4 q1 q5 q2 q3 hl1 hl2 hend hQ
  · have hTy : s.TypeIs (.ref z) "zip" := ⟨_, q4, rfl⟩
    unfold pyNext
    refine wpAny_bind (wpAny_attempt (wpAny_callSpecial?_slot (name := Str.ofString "__next__") hTy F.slot_zip_next
      (wpAny_call_entry F.slot_zip_next hTy F.entry_zip_next (zt_next_end_held hh D q4 q5 q1 q2 q3 hl1 hl2 hend fun h' e hk he => ?_) (F.args_zip_next_1 _))))
    obtain ⟨o, ho, hc⟩ := he
    refine wpAny_bind (wpAny_isInstance (T := "StopIteration") (b := true) ⟨o, ho, hc⟩ isSubtype_stop ?_)
    exact wpAny_pure (hQ _ fun c o c1 _ c3 c4 e => hk c o c1 c3 c4 e)
end
/-- the pairs made so far stand -/
structure ZtG (xs ys : List Value) (lo : Addr) (h : Heap) (as : List Addr) : Prop where
  rise : as.Pairwise (· < ·)
  above : ∀ a ∈ as, lo < a
  pairs : ∀ (j : Nat) (a : Addr), as[j]? = some a → ∃ x y, xs[j]? = some x ∧ ys[j]? = some y ∧ IsPair h a x y
theorem ZtG.there {xs ys : List Value} {lo : Addr} {h : Heap} {as : List Addr} (g : ZtG xs ys lo h as) {a : Addr} (ha : a ∈ as) : a < h.objs.size := by
  obtain ⟨j, hj⟩ := List.mem_iff_getElem?.mp ha
  obtain ⟨_, _, _, _, e⟩ := g.pairs j a hj
  exact Heap.lt_size e
section
variable {prog : Program} {w : World} {A : Around} {s : Shared} {R : Result → Shared → Prop} {xs ys : List Value}
theorem zt_loop {S z TI TO i1 i2 l1 l2 : Addr} (hh : A.handled = none) (D : ZipApart z TI TO i1 i2 l1 l2) (hz : z < S) (h1z : i1 < S) (h2z : i2 < S) (hTOz : TO < S) (hTIz : TI < S) (m1 : l1 < S) (m2 : l2 < S) (n : Nat) (hn : n = min xs.length ys.length) (hns : n ≤ sizeLine) (res : Value) {h₁ : Heap}
    (hR : ∀ h' tk acc c as, (∀ b o, b ≠ S → b ≠ z → b ≠ TO → b ≠ i1 → b ≠ i2 → h₁.get? b = some o → h'.get? b = some o) → h'.get? S = some { cls := .type "list", dict := none, data := .seq acc c, slots := #[] } → as.length = n → ZtG xs ys S h' as →
      acc.toList = as.map Value.ref → R (.ok (.ret res)) { s with heap := h', toks := tk }) :
    ∀ (k i : Nat) (h : Heap) (tk c : Nat) (acc : Array Value) (as : List Addr), n - i = k → i ≤ n → ZtSt h z TI TO i1 i2 l1 l2 S i → h.IsTuple l1 xs.toArray → h.IsTuple l2 ys.toArray → (∀ b o, b ≠ S → b ≠ z → b ≠ TO → b ≠ i1 → b ≠ i2 → h₁.get? b = some o → h.get? b = some o) →
      h.get? S = some { cls := .type "list", dict := none, data := .seq acc c, slots := #[] } → acc.toList = as.map Value.ref → as.length = i → ZtG xs ys S h as →
      codeAny (model prog w) A (.builtin "list.extend.loop" ⟨[.ref S, .ref z, res], []⟩) R { s with heap := h, toks := tk } := by
  have nTI := Nat.ne_of_lt hTIz
  have nTO := Nat.ne_of_lt hTOz
  have n1 := Nat.ne_of_lt h1z
  have n2 := Nat.ne_of_lt h2z
  have nz := Nat.ne_of_lt hz
  intro k
  induction k with
  | zero =>
    intro i h tk c acc as hk hi hst hL1 hL2 hkeep hS hacc hal hG
    have hin : i = n := by omega
    refine codeAny_builtin PySem.F.entry_extend_loop ?_
    rw [Around.under_plainId PySem.F.plain_extend_loop _]
    show wpAny _ A.in1 (pyNext (.ref z) >>= _) _ _ _
    have hend : xs.toArray[i]? = none ∨ ys.toArray[i]? = none := by
      rcases Nat.le_total xs.length ys.length with q | q
      · exact .inl (by simp; omega)
      · exact .inr (by simp; omega)
    refine wpAny_bind (zt_end (s := { s with heap := h, toks := tk }) (A := A.in1) hh D hst hL1 hL2 hend fun h' he => ?_)
    refine wpAny_pure (hR h' tk acc c as (fun b o b1 b2 b3 b4 b5 e => he b o b2 b3 b4 b5 (hkeep b o b1 b2 b3 b4 b5 e)) (he S _ nz.symm nTO.symm n1.symm n2.symm hS) (by omega) ⟨hG.rise, hG.above, fun j a hj => ?_⟩ hacc)
    obtain ⟨x, y, e1, e2, e3⟩ := hG.pairs j a hj
    have ha := hG.above a (List.mem_of_getElem? hj)
    exact ⟨x, y, e1, e2, he a _ (Nat.ne_of_gt (Nat.lt_trans hz ha)) (Nat.ne_of_gt (Nat.lt_trans hTOz ha)) (Nat.ne_of_gt (Nat.lt_trans h1z ha)) (Nat.ne_of_gt (Nat.lt_trans h2z ha)) e3⟩
  | succ k ih =>
    intro i h tk c acc as hk hi hst hL1 hL2 hkeep hS hacc hal hG
    have hlt : i < n := by omega
    have hl1 : i < xs.length := by omega
    have hl2 : i < ys.length := by omega
    have hx : xs[i]? = some xs[i] := List.getElem?_eq_getElem hl1
    have hy : ys[i]? = some ys[i] := List.getElem?_eq_getElem hl2
    have hsz : acc.size = i := by rw [← Array.length_toList, hacc, List.length_map, hal]
    refine codeAny_builtin PySem.F.entry_extend_loop ?_
    rw [Around.under_plainId PySem.F.plain_extend_loop _]
    show wpAny _ A.in1 (pyNext (.ref z) >>= _) _ _ _
    refine wpAny_bind (zt_item (s := { s with heap := h, toks := tk }) D hst (Heap.lt_size hS) hL1 hL2 (x := xs[i]) (y := ys[i]) (by simpa using hx) (by simpa using hy) fun h' hst' ht hz' hkp => ?_)
    dsimp only at ht hz' hkp ⊢
    have hS' := hkp S _ nz.symm nTO.symm n1.symm n2.symm hS
    have up : ∀ b o, b ≠ S → h'.get? b = some o → (h'.update S (Obj.mapSeq (·.push (Value.ref h.objs.size)))).get? b = some o := fun b o hb e => (Heap.get?_update_other _ _ (Ne.symm hb)).trans e
    have hSl : S < h.objs.size := Heap.lt_size hS
    show wpAny _ A.in1 (updateSeq S (·.push (Value.ref h.objs.size)) >>= _) _ _ _
    refine wpAny_bind ?_
    have tup : ∀ {l : Addr} {vs : Array Value}, l ≠ S → l ≠ z → l ≠ TO → l ≠ i1 → l ≠ i2 → h.IsTuple l vs → (h'.update S (Obj.mapSeq (·.push (Value.ref h.objs.size)))).IsTuple l vs := fun {l vs} c1 c2 c3 c4 c5 q => by
      obtain ⟨o, q1, q2⟩ := q
      exact ⟨o, up _ _ c1 (hkp _ _ c2 c3 c4 c5 q1), q2⟩
    refine wpAny_updateSeq hS' rfl (wpAny_pure ⟨plainId_quiet PySem.F.plain_extend_loop _, ih (i + 1) _ tk _ (acc.push (Value.ref h.objs.size)) (as ++ [h.objs.size]) (by omega) hlt (hst'.keep up nz nTI nTO n1 n2) (tup (Nat.ne_of_lt m1) D.l1z D.l1TO D.l1i1 D.l1i2 hL1) (tup (Nat.ne_of_lt m2) D.l2z D.l2TO D.l2i1 D.l2i2 hL2)
      (fun b o b1 b2 b3 b4 b5 e => up b o b1 (hkp b o b2 b3 b4 b5 (hkeep b o b1 b2 b3 b4 b5 e))) (Heap.get?_update_self _ hS' rfl) (by rw [Array.toList_push, hacc, List.map_append]; rfl) (by rw [List.length_append, hal]; rfl) ⟨?_, ?_, ?_⟩⟩) (by rw [hsz]; omega) (by show (acc.push (Value.ref h.objs.size)).size ≤ sizeLine + 1; rw [Array.size_push, hsz]; omega)
    · refine List.pairwise_append.mpr ⟨hG.rise, List.pairwise_singleton _ _, fun a ha b hb => ?_⟩
      rw [List.mem_singleton.mp hb]
      exact hG.there ha
    · intro a ha
      rcases List.mem_append.mp ha with ha | ha
      · exact hG.above a ha
      · rw [List.mem_singleton.mp ha]; exact hSl
    · intro j b hj
      rcases Nat.lt_trichotomy j as.length with h1 | h1 | h1
      · rw [List.getElem?_append_left h1] at hj
        obtain ⟨x', y', e1, e2, e3⟩ := hG.pairs j b hj
        have hb := hG.above b (List.mem_of_getElem? hj)
        exact ⟨x', y', e1, e2, up b _ (Nat.ne_of_gt hb) (hkp b _ (Nat.ne_of_gt (Nat.lt_trans hz hb)) (Nat.ne_of_gt (Nat.lt_trans hTOz hb)) (Nat.ne_of_gt (Nat.lt_trans h1z hb)) (Nat.ne_of_gt (Nat.lt_trans h2z hb)) e3)⟩
      · subst h1
        have hb : h.objs.size = b := by simpa using hj
        subst hb
        exact ⟨_, _, by rw [hal]; exact hx, by rw [hal]; exact hy, up _ _ (Nat.ne_of_gt hSl) ht⟩
      · have hnone : (as ++ [h.objs.size])[j]? = none := List.getElem?_eq_none (by rw [List.length_append, List.length_singleton]; omega)
        rw [hnone] at hj; cases hj
end
theorem zip_no_len : typeLookup (.type "zip") "__len__" = pure none := am_miss_of_fast (by decide +kernel)
theorem zip_no_hint : typeLookup (.type "zip") "__length_hint__" = pure none := am_miss_of_fast (by decide +kernel)
section
variable {prog : Program} {w : World} {A : Around} {E : Value → Shared → Prop} {s : Shared} {z : Addr} {xs ys : List Value}
theorem zt_hint (hT : s.TypeIs (.ref z) "zip") {Q : Bool → Shared → Prop} (h : Q true s) : wpAny (model prog w) A (Builtin.List.listLengthHint (.ref z)) Q E s := by
  unfold Builtin.List.listLengthHint
  refine wpAny_bind (wpAny_specialOf hT zip_no_len ?_)
  refine wpAny_ite_split (fun hab => absurd hab (by decide)) (fun _ => ?_)
  refine wpAny_ite_split (fun hab => absurd hab (by decide)) (fun _ => ?_)
  refine wpAny_bind (wpAny_specialOf hT zip_no_hint ?_)
  exact wpAny_pure h

theorem zt_init {R : Result → Shared → Prop} {TI TO i1 i2 l1 l2 : Addr} (hh : A.handled = none) (D : ZipApart z TI TO i1 i2 l1 l2) (hzip : IsZip s.heap z TI TO .none) (hTI : IsPair s.heap TI (.ref i1) (.ref i2)) (hTO : ∃ a b, IsPair s.heap TO a b) (h1 : s.heap.IsTupleIter i1 l1 0) (h2 : s.heap.IsTupleIter i2 l2 0)
    (hl1 : s.heap.IsTuple l1 xs.toArray) (hl2 : s.heap.IsTuple l2 ys.toArray) (S : Addr) (hzS : z < S) (g1 : i1 < S) (g2 : i2 < S) (g3 : TO < S) (g4 : TI < S) (g5 : l1 < S) (g6 : l2 < S) (hS : s.heap.get? S = some { cls := .type "list", data := .seq #[] }) (hns : min xs.length ys.length ≤ sizeLine)
    (hR : ∀ h' tk acc c as, (∀ b o, b ≠ S → b ≠ z → b ≠ TO → b ≠ i1 → b ≠ i2 → s.heap.get? b = some o → h'.get? b = some o) → h'.get? S = some { cls := .type "list", dict := none, data := .seq acc c, slots := #[] } → as.length = min xs.length ys.length → ZtG xs ys S h' as →
      acc.toList = as.map Value.ref → R (.ok (.ret .none)) { s with heap := h', toks := tk }) :
    wpAny (model prog w) A.in1 (Builtin.«list.__init__» ⟨[.ref S, .ref z], []⟩)
      (fun fin s' => match fin with | .done f => R (.ok f) s' | .again c' => c'.quiet = true ∧ codeAny (model prog w) A c' R s') (fun e s' => R (.error e) s') s := by
  show wpAny _ _ (do let old ← Builtin.List.listItems (.ref S); Builtin.List.listUpdate (.ref S) (fun _ => #[]); letGo old.toList.reverse; Builtin.List.listExtendWith (.ref S) (.ref z) .none) _ _ s
  refine wpAny_bind ?_
  unfold Builtin.List.listItems
  refine wpAny_bind (wpAny_seqItems hS rfl (wpAny_pure ?_))
  show wpAny _ _ (updateSeq S (fun _ => #[]) >>= fun _ => letGo (#[] : Array Value).toList.reverse >>= fun _ => Builtin.List.listExtendWith (.ref S) (.ref z) .none) _ _ s
  refine wpAny_bind (wpAny_updateSeq hS rfl ?_)
  have hS₂ := Heap.get?_update_self (Obj.mapSeq (fun _ => (#[] : Array Value))) hS rfl
  have oth : ∀ b o, b ≠ S → s.heap.get? b = some o → (s.heap.update S (Obj.mapSeq (fun _ => (#[] : Array Value)))).get? b = some o :=
    fun b o hb e => (Heap.get?_update_other _ _ (Ne.symm hb)).trans e
  refine wpAny_bind (wpAny_letGo ?_)
  have hz2 : IsZip (s.heap.update S (Obj.mapSeq (fun _ => (#[] : Array Value)))) z TI TO .none := oth _ _ (Nat.ne_of_lt hzS) hzip
  have key : ∀ (h : Heap) (c₁ tk : Nat), (∀ b o, b ≠ S → s.heap.get? b = some o → h.get? b = some o) → h.get? S = some { cls := .type "list", data := .seq #[] c₁ } →
      codeAny (model prog w) A (.builtin "list.extend.loop" ⟨[.ref S, .ref z, .none], []⟩) R { s with heap := h, toks := tk } := by
    intro h c₁ tk hk hS₁
    obtain ⟨a, b, hTO⟩ := hTO
    obtain ⟨o1, e1, e1'⟩ := hl1
    obtain ⟨o2, e2, e2'⟩ := hl2
    refine zt_loop hh D hzS g1 g2 g3 g4 g5 g6 _ rfl hns .none (h₁ := s.heap) (fun h' tk' acc c as hk' hS' hl hG hacc => hR h' tk' acc c as hk' hS' hl hG hacc)
      _ 0 h tk c₁ #[] [] (Nat.sub_zero _) (Nat.zero_le _) ⟨hk _ _ (Nat.ne_of_lt g4) hTI, h1.at fun o e => hk _ o (Nat.ne_of_lt g1) e, h2.at fun o e => hk _ o (Nat.ne_of_lt g2) e, .inl ⟨hk _ _ (Nat.ne_of_lt hzS) hzip, a, b, hk _ _ (Nat.ne_of_lt g3) hTO⟩⟩ ⟨o1, hk _ _ (Nat.ne_of_lt g5) e1, e1'⟩ ⟨o2, hk _ _ (Nat.ne_of_lt g6) e2, e2'⟩ (fun b o hb _ _ _ _ e => hk b o hb e) hS₁ rfl rfl
      ⟨List.Pairwise.nil, (fun _ ha => nomatch ha), (fun j a hj => by simp at hj)⟩
  unfold Builtin.List.listExtendWith
  have hT2 : Shared.TypeIs { s with heap := s.heap.update S (Obj.mapSeq (fun _ => (#[] : Array Value))) } (.ref z) "zip" := ⟨_, hz2, rfl⟩
  refine wpAny_bind (wpAny_typeOf (T := "zip") hT2 ?_)
  have e1 : Builtin.List.listSameRef (.ref S) (.ref z) = false := by simp [Builtin.List.listSameRef, Nat.ne_of_gt hzS]
  have e2 : (Value.type "zip" == Value.type "list") = false := by decide
  have e3 : (Value.type "zip" == Value.type "tuple") = false := by decide
  simp only [e1, e2, e3, Bool.or_false, Bool.false_eq_true, if_false]
  refine wpAny_bind (wpAny_pyIter_zip hz2 ?_)
  refine wpAny_bind (wpAny_holding (zt_hint hT2 ?_))
  refine wpAny_ite_split (fun _ => ?_) (fun _ => wpAny_pure ⟨plainId_quiet PySem.F.plain_extend_loop _, key _ _ _ (fun b o hb e => oth b o hb e) hS₂⟩)
  refine wpAny_bind (wpAny_rule ?_)
  refine wpAny_bind ?_
  show wpAny _ _ (updateSeq S (·.push .none) >>= fun _ => updateSeq S (·.pop)) _ _ _
  refine wpAny_bind (wpAny_updateSeq hS₂ rfl ?_)
  have hS₃ := Heap.get?_update_self (Obj.mapSeq (·.push Value.none)) hS₂ rfl
  refine wpAny_updateSeq (hz := by seq_fits) hS₃ rfl ?_
  have hS₄ := Heap.get?_update_self (Obj.mapSeq (·.pop)) hS₃ rfl
  refine wpAny_pure ⟨plainId_quiet PySem.F.plain_extend_loop _, key _ _ _ (fun b o hb e => ?_) hS₄⟩
  exact (Heap.get?_update_other _ _ (Ne.symm hb)).trans ((Heap.get?_update_other _ _ (Ne.symm hb)).trans (oth b o hb e))
theorem zt_call {Q : Value → Shared → Prop} {TI TO i1 i2 l1 l2 : Addr} (hh : A.handled = none) (D : ZipApart z TI TO i1 i2 l1 l2) (hzip : IsZip s.heap z TI TO .none) (hTI : IsPair s.heap TI (.ref i1) (.ref i2)) (hTO : ∃ a b, IsPair s.heap TO a b) (h1 : s.heap.IsTupleIter i1 l1 0) (h2 : s.heap.IsTupleIter i2 l2 0)
    (hl1 : s.heap.IsTuple l1 xs.toArray) (hl2 : s.heap.IsTuple l2 ys.toArray) (hns : min xs.length ys.length ≤ sizeLine)
    (hQ : ∀ h' tk acc c as, (∀ b o, b ≠ z → b ≠ TO → b ≠ i1 → b ≠ i2 → s.heap.get? b = some o → h'.get? b = some o) → h'.get? s.heap.objs.size = some { cls := .type "list", dict := none, data := .seq acc c, slots := #[] } → as.length = min xs.length ys.length → ZtG xs ys s.heap.objs.size h' as →
      acc.toList = as.map Value.ref → Q (.ref s.heap.objs.size) { s with heap := h', toks := tk }) :
    wpAny (model prog w) A (call (.type "list") [.ref z]) Q E s := by
  refine callType_codes (Q₁ := fun obj s₁ => obj = .ref s.heap.objs.size ∧ s₁ = { s with heap := s.heap.push { cls := .type "list", data := .seq #[] } }) PySem.F.called_list (PySem.F.typeCall_list_1 _) PySem.F.entry_list_init
    (code_list_new _ ⟨rfl, rfl⟩) fun obj s₁ h₁ => ?_
  obtain ⟨rfl, rfl⟩ := h₁
  have hS : (s.heap.push { cls := .type "list", data := .seq #[] }).get? s.heap.objs.size = some { cls := .type "list", data := .seq #[] } := Heap.get?_push_size _ rfl
  obtain ⟨a, b, hTO⟩ := hTO
  obtain ⟨_, q1, _⟩ := id h1
  obtain ⟨_, q2, _⟩ := id h2
  obtain ⟨_, q3, _⟩ := id hl1
  obtain ⟨_, q4, _⟩ := id hl2
  refine ⟨⟨_, hS, rfl⟩, PySem.F.args_list_init_2 _ _, zt_init (xs := xs) (ys := ys) (A := A.in1) hh D (Heap.get?_push_of_some _ hzip) (Heap.get?_push_of_some _ hTI) ⟨a, b, Heap.get?_push_of_some _ hTO⟩ (h1.at fun o e => Heap.get?_push_of_some _ e) (h2.at fun o e => Heap.get?_push_of_some _ e) (Heap.IsTuple.push hl1 _) (Heap.IsTuple.push hl2 _) _ (Heap.lt_size hzip) (Heap.lt_size q1) (Heap.lt_size q2) (Heap.lt_size hTO) (Heap.lt_size hTI) (Heap.lt_size q3) (Heap.lt_size q4) hS hns (fun h' tk acc c as hk hS' hl hG hacc => ?_)⟩
  exact ⟨rfl, hQ h' tk acc c as (fun b o c1 c2 c3 c4 e => hk b o (Nat.ne_of_lt (Heap.lt_size e)) c1 c2 c3 c4 (Heap.get?_push_of_some _ e)) hS' hl hG hacc⟩
end
end DL
end

section
set_option Elab.async false
set_option linter.all false
set_option maxRecDepth 100000
set_option autoImplicit false
set_option maxHeartbeats 1000000
/-! DL23: list(zip(t, u)), list(d.values()) as rules. -/
namespace DL
open PySem PySem.Spec PyProof.Rows L2
def putP : Hp → List Addr → List (V × V) → Hp
  | H, a :: as, p :: ps => putP (upd H a (.tup [p.1, p.2])) as ps
  | H, _, _ => H
theorem putP_off {b : Addr} : ∀ (as : List Addr) (ps : List (V × V)) (H : Hp), b ∉ as → putP H as ps b = H b
  | [], _, _, _ => rfl
  | _ :: _, [], _, _ => rfl
  | a :: as, p :: ps, H, h => by
    show putP (upd H a (.tup [p.1, p.2])) as ps b = H b
    rw [putP_off as ps _ (fun z => h (List.mem_cons_of_mem _ z)), upd_ne (fun z => h (by rw [z]; exact List.mem_cons_self))]
theorem putP_at : ∀ (as : List Addr) (ps : List (V × V)) (H : Hp), as.length = ps.length → as.Nodup → ∀ (j : Nat) (a : Addr), as[j]? = some a → ∃ p, ps[j]? = some p ∧ putP H as ps a = some (.tup [p.1, p.2])
  | [], [], _, _, _, j, a, e => by simp at e
  | [], _ :: _, _, h, _, _, _, _ => by cases h
  | _ :: _, [], _, h, _, _, _, _ => by cases h
  | a :: as, p :: ps, H, h, hn, j, b, e => by
    have hn' := List.nodup_cons.mp hn
    cases j with
    | zero =>
      cases e
      refine ⟨p, rfl, ?_⟩
      show putP (upd H a (.tup [p.1, p.2])) as ps a = _
      rw [putP_off as ps _ hn'.1, upd_same]
    | succ j =>
      obtain ⟨q, q1, q2⟩ := putP_at as ps (upd H a (.tup [p.1, p.2])) (Nat.succ.inj h) hn'.2 j b (by simpa using e)
      exact ⟨q, by simpa using q1, q2⟩
def rListZip (K : PySem.W.Frag) : List V → Hp → VK → Prop := fun vs H Q => ∃ (a b : Addr) (xs ys : List V), vs = [.ref a, .ref b] ∧ SqT K H a xs ∧ SqT K H b ys ∧
  ∀ (H' : Hp) (p : Addr) (ts : List Addr), (∀ b o, H b = some o → H' b = some o) → H p = none → H' p = some (.lst (ts.map V.ref)) → ts.length = min xs.length ys.length →
    (∀ (j : Nat) (t : Addr), ts[j]? = some t → ∃ x y, xs[j]? = some x ∧ ys[j]? = some y ∧ H t = none ∧ t ≠ p ∧ H' t = some (.tup [x, y])) → Q (.ref p) H'
section
variable {X : Cx} {e e2 : Expr} {ta : TA} {p p2 cpos pos : Pos}
theorem pairs_laid {pins : List (Addr × Obj)} {σ : L2.St} {H : Hp} {s : Shared} {h' : Heap} {tk : Nat} {xs ys : List V} {us ws : List Value} {acc : Array Value} {c S : Nat} {as : List Addr} (I : Inv X pins σ H s) (r1 : Vals xs us) (r2 : Vals ys ws) (hz : min xs.length ys.length ≤ sizeLine)
    (hSl : s.heap.objs.size ≤ S) (hk : ∀ b o, s.heap.get? b = some o → h'.get? b = some o) (hS : h'.get? S = some { cls := .type "list", dict := none, data := .seq acc c, slots := #[] }) (hl : as.length = min us.length ws.length) (hG : ZtG us ws S h' as) (hacc : acc.toList = as.map Value.ref) :
    ∃ H' : Hp, (∀ b o, H b = some o → H' b = some o) ∧ H S = none ∧ H' S = some (.lst (as.map V.ref)) ∧ as.length = min xs.length ys.length ∧
      (∀ (j : Nat) (t : Addr), as[j]? = some t → ∃ x y, xs[j]? = some x ∧ ys[j]? = some y ∧ H t = none ∧ t ≠ S ∧ H' t = some (.tup [x, y])) ∧ Inv X pins σ H' { s with heap := h', toks := tk } := by
  have l1 := r1.length
  have l2 := r2.length
  have hlen : as.length = (xs.zip ys).length := by rw [List.length_zip]; omega
  have hSn : S ∉ as := fun z => Nat.lt_irrefl _ (hG.above _ z)
  have nd : as.Nodup := List.Pairwise.imp (fun {a b} (h : a < b) => Nat.ne_of_lt h) hG.rise
  have ab : ∀ t ∈ as, s.heap.objs.size ≤ t := fun t ht => Nat.le_trans hSl (Nat.le_of_lt (hG.above t ht))
  have new : ∀ t ∈ as, H t = none := fun t ht => I.hok.fresh (ab t ht)
  have newS : H S = none := I.hok.fresh hSl
  have atP := putP_at as (xs.zip ys) (upd H S (.lst (as.map V.ref))) hlen nd
  have off : ∀ b, b ∉ as → b ≠ S → putP (upd H S (.lst (as.map V.ref))) as (xs.zip ys) b = H b := fun b h1 h2 => by rw [putP_off as _ _ h1, upd_ne h2]
  have low : ∀ b o, s.heap.get? b = some o → b ∉ as ∧ b ≠ S := fun b o e => ⟨fun z => absurd (Heap.lt_size e) (Nat.not_lt.mpr (ab b z)), Nat.ne_of_lt (Nat.lt_of_lt_of_le (Heap.lt_size e) hSl)⟩
  have kp : ∀ b u, H b = some u → (putP (upd H S (.lst (as.map V.ref))) as (xs.zip ys)) b = some u := fun b u e => by
    rw [off b (fun z => by rw [new b z] at e; cases e) (fun z => by rw [z, newS] at e; cases e)]
    exact e
  have eS : putP (upd H S (.lst (as.map V.ref))) as (xs.zip ys) S = some (.lst (as.map V.ref)) := by rw [putP_off as _ _ hSn, upd_same]
  have zipAt : ∀ (j : Nat) (q : V × V), (xs.zip ys)[j]? = some q → xs[j]? = some q.1 ∧ ys[j]? = some q.2 := fun j q hq => by
    rw [List.getElem?_zip_eq_some] at hq
    exact hq
  refine ⟨putP (upd H S (.lst (as.map V.ref))) as (xs.zip ys), kp, newS, eS, by rw [hl]; omega, fun j t ht => ?_, ?_⟩
  · obtain ⟨q, q1, q2⟩ := atP j t ht
    obtain ⟨q3, q4⟩ := zipAt j q q1
    have hm := List.mem_of_getElem? ht
    exact ⟨_, _, q3, q4, new t hm, fun z => hSn (z ▸ hm), q2⟩
  refine I.call' (ch := []) rfl ⟨fun b o q _ _ _ => hk b o q, fun b o q _ _ _ => ⟨o.slots, hk b o q⟩, fun b o q n _ => ?_, fun b o q _ => ⟨o, hk b o q⟩, fun b xs q => kp b _ q, fun b o u q => kp b _ q, fun b ps q => ⟨#[], by rw [kp b _ q]; simp⟩⟩ (fun b u q => ?_) I.bare fun b z => by simp at z
  · obtain ⟨z1, z2⟩ := low b o q
    rw [off b z1 z2]
    exact n
  · by_cases hb : b ∈ as
    · obtain ⟨j, hj⟩ := List.mem_iff_getElem?.mp hb
      obtain ⟨pk, e1, e3⟩ := atP j b hj
      obtain ⟨q3, q4⟩ := zipAt j pk e1
      rw [e3] at q
      cases q
      obtain ⟨x, y, f1, f2, f3⟩ := hG.pairs j b hj
      obtain ⟨x', g1, g2⟩ := r1.get q3
      obtain ⟨y', g3, g4⟩ := r2.get q4
      rw [f1] at g1
      cases g1
      rw [f2] at g3
      cases g3
      exact ⟨by show 2 ≤ sizeLine; decide, [x, y], .cons g2 (.cons g4 .nil), ⟨_, f3, rfl, _, rfl⟩⟩
    · by_cases hb2 : b = S
      · rw [hb2] at q ⊢
        rw [eS] at q
        cases q
        refine ⟨by rw [List.length_map]; omega, acc.toList, c, by rw [hacc]; exact LiI.vals_refs as, ?_⟩
        rw [Array.toArray_toList]
        exact hS
      · rw [off b hb hb2] at q
        exact (I.hok b u q).stay (fun d v _ y => hk d v y) (fun d y => kp d _ y) fun d xs y => kp d _ y
/-- list(zip(e, e2)) of two tuples -/
theorem pe_listZip (hc : X.calm = true) (ha : PA X [e, e2] ta) (hg : Gl X "list") (hm : X.mg "list" = none) (hg2 : Gl X "zip") (hm2 : X.mg "zip" = none)
    (hs : starEach [.Call (.Name "zip" p2) [e, e2] [] cpos] X.env = (false, eval (.Call (.Name "zip" p2) [e, e2] [] cpos) X.env) :: starEach [] X.env := by rfl)
    (hs2 : starEach [e, e2] X.env = (false, eval e X.env) :: starEach [e2] X.env := by rfl) (hpl2 : (backTo cpos (starEach [e2] X.env)).any (·.1) = false := by rfl) :
    PE X (.Call (.Name "list" p) [.Call (.Name "zip" p2) [e, e2] [] cpos] [] pos) (tCB (rListZip X.K) ta) := by
  refine ⟨fun pins s σ H Q I hq => ?_⟩
  refine wpAny_Call_Name_kw (ld_blt I hg hm PyProof.Rows.boot_list ?_)
  refine PyProof.Rows.callWith_type1 ?_ hs rfl
  rw [hs]
  show wpAny _ _ (spliced ((false, eval (.Call (.Name "zip" p2) [e, e2] [] cpos) X.env) :: backTo pos (starEach [] X.env))) _ _ s
  refine Calls.spliced_cons ?_
  refine Call_ (ld_blt I hg2 hm2 PyProof.Rows.boot_zip (PyProof.Rows.callWith_type1 (thn (ha.run cpos pins s σ H _ I hq) fun us s1 ⟨vs, H1, I1, r1, q1⟩ => ?_) hs2 hpl2))
  obtain ⟨a, b, xs, ys, ex, hqx, hqy, q⟩ := q1
  subst ex
  cases r1 with
  | cons r rr =>
    cases rr with
    | cons r' rr =>
      cases rr
      cases r
      cases r'
      obtain ⟨its, rv, p1, z1⟩ := I1.tuple hqx
      obtain ⟨its2, rv2, p2, z2⟩ := I1.tuple hqy
      obtain ⟨o1, ho1, _⟩ := id p1
      obtain ⟨o2, ho2, _⟩ := id p2
      refine RZ.call_zipT (show s1.heap.IsTuple a its.toArray from p1) (show s1.heap.IsTuple b its2.toArray from p2) fun h' hz hTI hTO h1 h2 hsz hk => ?_
      refine Calls.spliced_nil ?_
      have hl1 : h'.IsTuple a its.toArray := by
        obtain ⟨o, y1, y2⟩ := p1
        exact ⟨o, hk _ _ y1, y2⟩
      have hl2 : h'.IsTuple b its2.toArray := by
        obtain ⟨o, y1, y2⟩ := p2
        exact ⟨o, hk _ _ y1, y2⟩
      have l1 := rv.length
      have l2 := rv2.length
      refine zt_call (s := { s1 with heap := h' }) (xs := its) (ys := its2) (I1.ok.hd hc) (PySem.W.ktu_apart s1.heap.objs.size a b (Heap.lt_size ho1) (Heap.lt_size ho2)) hz hTI ⟨_, _, hTO⟩ h1 h2 hl1 hl2 (by omega) fun h'' tk acc c as hk2 hS hl hG hacc => ?_
      have hk3 : ∀ b o, s1.heap.get? b = some o → h''.get? b = some o := fun b o y => by
        have hb := Heap.lt_size y
        exact hk2 b o (Nat.ne_of_lt (Nat.lt_of_lt_of_le hb (Nat.le_add_right _ _))) (Nat.ne_of_lt (Nat.lt_of_lt_of_le hb (Nat.le_add_right _ _))) (Nat.ne_of_lt hb) (Nat.ne_of_lt (Nat.lt_of_lt_of_le hb (Nat.le_add_right _ _))) (hk b o y)
      obtain ⟨H', k1, k2, k3, k4, k5, J⟩ := pairs_laid (tk := tk) (S := h'.objs.size) I1 rv rv2 (by omega) (by show s1.heap.objs.size ≤ h'.objs.size; rw [hsz]; omega) hk3 hS hl hG hacc
      exact ⟨.ref _, H', J, rfl, q H' _ as k1 k2 k3 k4 k5⟩
end
/-! ### list(zip(..)) of data -/
def pairsF (Γ : Gam) (vs : List Val) : R Val := match vs with
  | [.f (.tuple ds), .f (.tuple es)] => .ok (.n (.ol (zipD ds es))) Γ
  | _ => .stuck
theorem repAll_at {cls : Str → Addr} {F : Hp} : ∀ {vs : List V} {ds : List D}, vs.length = ds.length → (∀ (i : Nat) (v : V), vs[i]? = some v → ∃ d, ds[i]? = some d ∧ Rep cls F v d) → RepAll cls F vs ds
  | [], [], _, _ => .nil
  | [], _ :: _, h, _ => by simp at h
  | _ :: _, [], h, _ => by simp at h
  | v :: vs, d :: ds, h, k => by
    obtain ⟨d', e1, e2⟩ := k 0 v rfl
    simp at e1
    subst e1
    exact .cons e2 (repAll_at (by simpa using h) fun i v hv => by simpa using k (i + 1) v (by simpa using hv))
theorem cs_listZip {M : Pm} : CallS M (rListZip M.K) pairsF := by
  intro E Γ σ F0 H0 own0 F H own xs as Q s st r p
  unfold pairsF at p
  split at p
  · rename_i ds es
    cases r with
    | cons r1 r =>
      cases r with
      | cons r2 r =>
        cases r
        obtain ⟨a, vs, rfl, h1, h2⟩ := Rep.invU r1
        obtain ⟨b, ws, rfl, h3, h4⟩ := Rep.invU r2
        refine ⟨a, b, vs, ws, rfl, .inl (rd_up s.fh h1), .inl (rd_up s.fh h3), fun H' q ts k1 k2 k3 k4 k5 => ?_⟩
        have l1 := h2.length
        have l2 := h4.length
        -- the pairs are frozen
        let F' : Hp := fun b => if b ∈ ts then H' b else F b
        have fF : Ex F F' := fun c o hc => by
          by_cases hm : c ∈ ts
          · obtain ⟨j, hj⟩ := List.mem_iff_getElem?.mp hm
            obtain ⟨_, _, _, _, n1, _, _⟩ := k5 j c hj
            rw [s.fh c o hc] at n1
            cases n1
          · show (if c ∈ ts then H' c else F c) = some o
            rw [if_neg hm]
            exact hc
        have eH : Ex H H' := k1
        have fH : Ex F' H' := fun c o hc => by
          have hc' : (if c ∈ ts then H' c else F c) = some o := hc
          by_cases hm : c ∈ ts
          · rw [if_pos hm] at hc'
            exact hc'
          · rw [if_neg hm] at hc'
            exact eH c o (s.fh c o hc')
        have nq : F' q = none := by
          show (if q ∈ ts then H' q else F q) = none
          rw [if_neg]
          · exact s.fh.back k2
          · intro hm
            obtain ⟨j, hj⟩ := List.mem_iff_getElem?.mp hm
            obtain ⟨_, _, _, _, _, n2, _⟩ := k5 j q hj
            exact n2 rfl
        have G : Grow F H F' H' := ⟨fF, eH, fH, fun c n1 n2 => by
          show (if c ∈ ts then H' c else F c) = none
          rw [if_neg]
          · exact n1
          · intro hm
            obtain ⟨j, hj⟩ := List.mem_iff_getElem?.mp hm
            obtain ⟨_, _, _, _, n3, _, _⟩ := k5 j c hj
            exact n2 n3⟩
        refine p _ F' H' own (s.grow G) (st.trans (G.step own)) ⟨fun c => c = q, ⟨q, ts.map V.ref, rfl, fun c => Iff.rfl, k3, ?_⟩, fun c hc => ?_⟩
        · refine repAll_at (by rw [List.length_map, zipD_length]; omega) fun i v hv => ?_
          rw [List.getElem?_map] at hv
          cases ht : ts[i]? with
          | none => rw [ht] at hv; cases hv
          | some t =>
            rw [ht] at hv
            cases hv
            obtain ⟨x, y, e1, e2, n1, n2, e3⟩ := k5 i t ht
            obtain ⟨d, f1, f2⟩ := h2.at' i x e1
            obtain ⟨d2, f3, f4⟩ := h4.at' i y e2
            refine ⟨.tuple [d, d2], by rw [zipD_at, f1, f3], .tup (vs := [x, y]) ?_ (.cons (f2.mono fF) (.cons (f4.mono fF) .nil))⟩
            show (if t ∈ ts then H' t else F t) = _
            rw [if_pos (List.mem_of_getElem? ht)]
            exact e3
        · have hc : c = q := hc
          subst hc
          refine ⟨nq, by rw [k3]; simp, fun i hi => s.there i c hi k2, ?_⟩
          cases e0 : H0 c with
          | none => rfl
          | some o => exact absurd k2 (st.al c (by rw [e0]; simp))
  · exact p.elim
section
variable {X : Cx} {M : Pm} {E : XK} {e e2 : Expr} {ms : Gam → R (List Val)} {p p2 cpos pos : Pos}
def listZipM (ms : Gam → R (List Val)) : Gam → R Val := callM pairsF ms
theorem e_listZip (hK : X.K = M.K) (hc : X.calm = true) (hg : Gl X "list") (hg2 : Gl X "zip") (hm : X.mg "list" = none) (hm2 : X.mg "zip" = none) (ha : PA X [e, e2] (tA M E ms))
    (hs : starEach [.Call (.Name "zip" p2) [e, e2] [] cpos] X.env = (false, eval (.Call (.Name "zip" p2) [e, e2] [] cpos) X.env) :: starEach [] X.env := by rfl)
    (hs2 : starEach [e, e2] X.env = (false, eval e X.env) :: starEach [e2] X.env := by rfl) (hpl2 : (backTo cpos (starEach [e2] X.env)).any (·.1) = false := by rfl) :
    PE X (.Call (.Name "list" p) [.Call (.Name "zip" p2) [e, e2] [] cpos] [] pos) (tE M E (listZipM ms)) := PE_weak (pe_listZip hc ha hg hm hg2 hm2 hs hs2 hpl2) fun σ H Q q => by
  rw [hK]
  exact tE_call cs_listZip q
end
end DL
end

section
set_option Elab.async false
set_option linter.all false
set_option maxRecDepth 100000
set_option autoImplicit false
set_option maxHeartbeats 1000000
/-! DL24: methods and classes called by keywords; own == and !=. -/
namespace DL
open PySem PySem.Spec PyProof.Rows L2
section
variable {X : Cx} {CX : CXT} {k : Nat} {f C : Addr} {fd : FuncData} {ps ks : List Str} {sp : Sp} {E : XK} {m : Str} {apos pos : Pos} {o : Expr} {kws : List Keyword} {ta : TE} {tk : TA} {g : List Value → List Value → List Value} {gV : List V → List V → List V}
/-- o.m(k = v, ..) -/
theorem pe_methK0 {pl : Sem Bool} (he : PE X o ta) (c : Cls X.K C) (hm : Meth X.K C m f) (F : FnOk X.prog X.w X.K X.mg X.base CX k f fd ps sp) (hr : Room k X.A) (hb : KBn X.K fd ps 1 ks g gV) (hx : Passes CX X E)
    (hkw : PK X kws tk) (hall : (backToKw pos (keywordEach kws X.env)).all (·.1.isSome) = true := by rfl) (hks : (backToKw pos (keywordEach kws X.env)).filterMap (·.1) = ks := by rfl)
    (hpl : ((backTo pos (starEach [] X.env)).any (·.1) || (backToKw pos (keywordEach kws X.env)).any (·.1.isNone)) = false := by rfl)
    (ht : eval (.Call (.Attribute o m apos) [] kws pos) X.env = (do
      let ov ← eval o X.env
      standAt apos.atName
      let (f, first) ← holding [ov] (getMethod ov m pl)
      callWith pos f first (backTo pos (starEach [] X.env)) (backToKw pos (keywordEach kws X.env))) := by rfl) :
    PE X (.Call (.Attribute o m apos) [] kws pos) (fun σ H Q => ta σ H fun x H1 => ∃ a dx fs, x = .ref a ∧ H1 a = some (.ins C dx fs) ∧ fs.lookup m = none ∧ tk σ H1 fun zs H2 => zs.length = ks.length ∧ sp (gV [x] zs) H2 Q E) := by
  refine ⟨fun pins s σ H Q I h => ?_⟩
  refine PySem.W.methodCall_KW (pl := pl) (thn (he.run pins s σ H _ I h) fun u s1 ⟨x, H1, I1, rx, a, dx, fs, ex, ea, l, q⟩ => ?_) ht
  subst ex
  obtain rfl : u = Value.ref a := rx
  refine getmeth_ok I1 ea c hm l ?_
  refine PySem.W.callWith_KW0 (h₀ := X.base) I.ok.mod.kin hm.kp hall ?_ hpl
  refine thn (hkw.run pos pins s1 σ H1 _ I1 q) fun ws s2 ⟨zs, H2, I2, rz, l2, q2⟩ => ⟨I2.kIn, ?_⟩
  rw [hks]
  have r2 := hb.rel (us := [Value.ref a]) (vs := [V.ref a]) (.cons rfl .nil) rz
  have hl : (g [Value.ref a] ws).length = ps.length := by
    rw [← r2.length]
    exact F.len _ _ _ _ q2
  refine wpAny_call (codeAny_mono (F.run X.A X.stack s2 H2 ⟨[.ref a], ks.zip ws⟩ (g [Value.ref a] ws) (gV [V.ref a] zs) Q E hr I2.env0 (hb.to s2 [Value.ref a] ws I2.kIn rfl (rz.length.symm.trans l2)) r2 q2) fun r s' hq => ?_)
  cases r with
  | error e => exact hx pins σ H2 s2 e s' I2 hq
  | ok fl =>
    cases fl with
    | ret u => exact I2.after hq
    | next => exact False.elim hq
    | brk => exact False.elim hq
    | cont => exact False.elim hq
end
section
variable {X : Cx} {M : Pm} {E : XK} {e o : Expr} {mo : Gam → R Val} {md : Gam → R (List D)} {kws : List Keyword} {p pos apos : Pos} {x c name : Str} {k : Nat} {cls : Str → Addr} {a0 : Option Addr} {ks : List Str} {perm : List Nat} {g : List Slot → R Val}
/-- what a caller by keywords takes of a method -/
def MetK (P : Program) (w : World) (K : PySem.W.Frag) (mg : Str → Option Value) (base : Heap) (cls : Str → Addr) (c name : Str) (k : Nat) (g : List Slot → R Val) (ks : List Str) (perm : List Nat) : Prop :=
  ∃ f fd ps, Cls K (cls c) ∧ Meth K (cls c) name f ∧ FnOk P w K mg base (L2.CX P w) k f fd ps (spG ⟨K, cls, none⟩ g) ∧ KBn K fd ps 1 ks (fun us ws => us ++ permL perm ws) (fun vs zs => vs ++ permL perm zs)
def MkK (P : Program) (w : World) (K : PySem.W.Frag) (mg : Str → Option Value) (base : Heap) (cls : Str → Addr) (c : Str) (k : Nat) (g : List Slot → R Val) (ks : List Str) (perm : List Nat) : Prop :=
  ∃ f fd ps, mg c = some (.ref (cls c)) ∧ Mk K (cls c) f ∧ FnOk P w K mg base (L2.CX P w) k f fd ps (spG ⟨K, cls, none⟩ g) ∧ KBn K fd ps 1 ks (fun us ws => us ++ permL perm ws) (fun vs zs => vs ++ permL perm zs)
def methKM (cl name : Str) (g : List Slot → R Val) (n : Nat) (perm : List Nat) (mo : Gam → R Val) (md : Gam → R (List D)) : Gam → R Val := fun Γ => (rd mo Γ).bind fun v Γ1 => match viewC Γ1 v with
  | some (c, ns) => if c = cl ∧ name ∉ ns then (md Γ1).bind fun ds Γ2 => if ds.length = n then callG g Γ2 (v :: (permL perm ds).map Val.f) else .stuck else .stuck
  | none => .stuck
theorem e_methKC {pl : Sem Bool} (C : MetK X.prog X.w X.K X.mg X.base cls c name k g ks perm) (he : PE X o (tE ⟨X.K, cls, a0⟩ E mo)) (hr : Room k X.A) (hx : Passes (L2.CX X.prog X.w) X E) (ha : PK X kws (tFs ⟨X.K, cls, a0⟩ E md))
    (hall : (backToKw pos (keywordEach kws X.env)).all (·.1.isSome) = true := by rfl) (hks : (backToKw pos (keywordEach kws X.env)).filterMap (·.1) = ks := by rfl)
    (hpl : ((backTo pos (starEach [] X.env)).any (·.1) || (backToKw pos (keywordEach kws X.env)).any (·.1.isNone)) = false := by rfl)
    (ht : eval (.Call (.Attribute o name apos) [] kws pos) X.env = (do
      let ov ← eval o X.env
      standAt apos.atName
      let (f, first) ← holding [ov] (getMethod ov name pl)
      callWith pos f first (backTo pos (starEach [] X.env)) (backToKw pos (keywordEach kws X.env))) := by rfl) :
    PE X (.Call (.Attribute o name apos) [] kws pos) (tE ⟨X.K, cls, a0⟩ E (methKM c name g ks.length perm mo md)) := by
  obtain ⟨f, fd, ps, hc, hm, F, hb⟩ := C
  refine PE_weak (pe_methK0 (pe_rd he) hc hm F hr hb hx ha hall hks hpl ht) fun σ H Q q => ?_
  obtain ⟨Γ, Fh, own, st, p⟩ := q
  refine ⟨Γ, Fh, own, st, post_bind p fun F1 H1 own1 Γ1 x va _ st1 s1 r1 p1 => ?_⟩
  split at p1
  · rename_i c' ns hv
    split at p1
    · rename_i hc'
      obtain ⟨rfl, hn⟩ := hc'
      obtain ⟨q, dx, fs, rfl, h1, h2⟩ := view_C st1 r1 hv
      refine ⟨q, dx, fs, rfl, h1, look_not (by rw [h2]; exact hn), Γ1, F1, own1, st1, post_bind (p1.mono (back_V _) s1) fun F2 H2 own2 Γ2 zs ds _ st2 s2 r2 p2 => ?_⟩
      split at p2
      · rename_i hl
        refine ⟨by rw [← hl]; exact RepAll.length (M := cls) r2, ?_⟩
        exact callG_ok (M := ⟨X.K, cls, a0⟩) st2 s2 (.cons (ValRd.mono s2.ff r1) (valsRd_fs (rep_perm r2 perm))) p2
      · exact p2.elim
    · exact p1.elim
  · exact p1.elim
def makeKM (c : Str) (g : List Slot → R Val) (n : Nat) (perm : List Nat) (md : Gam → R (List D)) : Gam → R Val := fun Γ => (md Γ).bind fun ds Γ1 => if ds.length = n then makeV c g Γ1 ((permL perm ds).map Val.f) else .stuck
theorem e_makeKC (C : MkK X.prog X.w X.K X.mg X.base cls c k g ks perm) (hr : Room (k + 1) X.A) (hg : Gl X c) (hx : Passes (L2.CX X.prog X.w) X E) (ha : PK X kws (tFs ⟨X.K, cls, a0⟩ E md))
    (hall : (backToKw pos (keywordEach kws X.env)).all (·.1.isSome) = true := by rfl) (hks : (backToKw pos (keywordEach kws X.env)).filterMap (·.1) = ks := by rfl) (hdb : (c == ("__debug__" : Str)) = false := by decide)
    (hpl : ((backTo pos (starEach [] X.env)).any (·.1) || (backToKw pos (keywordEach kws X.env)).any (·.1.isNone)) = false := by rfl) : PE X (.Call (.Name c p) [] kws pos) (tE ⟨X.K, cls, a0⟩ E (makeKM c g ks.length perm md)) := by
  obtain ⟨f, fd, ps, hm, hM, F, hb⟩ := C
  refine PE_weak (pe_makeK0 hM F hr hg hm hb hx ha hall hks hdb hpl) fun σ H Q ⟨Γ, Fh, own, st, q⟩ => ?_
  refine ⟨Γ, Fh, own, st, post_bind q fun F1 H1 own1 Γ1 zs ds _ st1 s1 r1 p1 => ?_⟩
  split at p1
  · rename_i hl
    refine ⟨rfl, by rw [← hl]; exact RepAll.length (M := cls) r1, fun x dx nx ndx nex => ?_⟩
    have := make_ok (M := ⟨X.K, cls, a0⟩) st1 s1 (valsRd_fs (rep_perm r1 perm)) p1 x dx nx ndx nex
    rw [List.append_nil] at this
    exact this
  · exact p1.elim
end
/-! ### own == and != -/
section
variable {prog : Program} {w : World} {A : Around} {E : Value → Shared → Prop} {s : Shared} {K : PySem.W.Frag} {x C L f : Addr} {h₀ : Heap} {m : Str → Option Value} {ox : Obj} {od : Option Obj} {name : Str} {b tb : Value}
open PySem.W in
theorem ifBound_B {M : Model} {args : List Value} {id : String} {Q : Option Value → Shared → Prop} (X : K.In s.heap) (I : InstAt s.heap x ox C od) (hs : findIn K (.ref C) name = some (some (.builtin id))) (hb : ∀ self, bindSpecial (.builtin id) self = pure (.builtin id, [self]))
    (h : wpAny M A (call (.builtin id) (.ref x :: args)) (fun v => Q (some v)) E s) : wpAny M A (callSpecialIfBound? (.ref x) name args) Q E s := by
  simp only [callSpecialIfBound?, bindSpecialIfBound?]
  refine wpAny_holding (wpAny_bind (wpAny_bind (wpAny_bind (I.type.here ((looks_findIn X hs).here ?_)))))
  simp only [hb]
  refine wpAny_bind (wpAny_askSetting (wpAny_ite ?_))
  have fin : wpAny M A (call (.builtin id) ([.ref x] ++ args) >>= fun v => pure (some v)) Q E s := wpAny_bind (wpAny_mono h (fun v s' h' => wpAny_pure h') fun _ _ h' => h')
  split
  · exact wpAny_bind (wpAny_pure (wpAny_pure fin))
  · exact wpAny_tryCatch (wpAny_bind (wpAny_pure (wpAny_pure fin)))
open PySem.W in
theorem check_slot_K {M : Model} {id owner n : String} {rest : List Value} {Q : Unit → Shared → Prop} (hk : builtinKind id = some .slot) (hs : splitId id = some (owner, n)) (ha : argsOk id ⟨.ref x :: rest, []⟩) (X : K.In s.heap) (I : InstAt s.heap x ox C od)
    (hob : subIn K (.ref C) (.type owner) = some true) (hq : Q () s) : wpAny M A (checkBuiltinCall id ⟨.ref x :: rest, []⟩) Q E s := by
  simp only [checkBuiltinCall, hk, hs]
  refine wpAny_bind ?_
  · unfold isInstance
    refine wpAny_bind (I.type.here ?_)
    refine (looks_subIn X hob).here ?_
    cases hsig : Manifest.signature? id with
    | none => exact wpAny_pure hq
    | some sig =>
      simp only [argsOk, hsig] at ha
      have h2 : Bind.checkArgs id sig ⟨.ref x :: rest, []⟩ = pure () := ha
      show wpAny M A (Bind.checkArgs id sig ⟨.ref x :: rest, []⟩) Q E _
      rw [h2]; exact wpAny_pure hq
open PySem.W in
theorem objNe_K {y : Addr} {Q : PySem.Fin → Shared → Prop} (X : K.In s.heap) (I : InstAt s.heap x ox C od) (hs : findIn K (.ref C) "__eq__" = some (some (.ref f))) (hf : isFn K (.ref f) = true) (hu : A.units < cLine)
    (hcall : wpAny (model prog w) A (call (.ref f) [.ref x, .ref y]) (fun v s' => ∃ b, v = .bool b ∧ Q (.done (.ret (.bool (!b)))) s') E s) :
    wpAny (model prog w) A (Builtin.«object.__ne__» ⟨[.ref x, .ref y], []⟩) Q E s := by
  obtain ⟨h, g, d, t, os⟩ := s
  unfold Builtin.«object.__ne__»
  repeat (first
    | with_reducible refine wpAny_cRoomFor hu ?_
    | (refine wpAny_bind (m := callSpecialIfBound? (.ref x) (Str.ofString "__eq__") [.ref y])
        (ifBound_K X I hs hf (wpAny_mono hcall (fun r s' hr => by
          obtain ⟨b, rfl, hq⟩ := hr
          repeat (first | exact hq | exact wpAny_pure hq | exact wpAny_truthy_bool hq | (refine wpAny_bind (m := truthy (.bool _)) (wpAny_truthy_bool ?_)) | wp_step)) fun _ _ e => e)))
    | wp_step)
open PySem.W in
theorem ne_own_K {y : Addr} {Q : Value → Shared → Prop} (hu : A.units + 1 < cLine) (X : K.In s.heap) (I : InstAt s.heap x ox C od) (hb : Looks (model prog w) s.heap (typeOf (.ref y)) (.ref C))
    (hne : findIn K (.ref C) "__ne__" = some (some (.builtin "object.__ne__"))) (hob : subIn K (.ref C) (.type "object") = some true)
    (hs : findIn K (.ref C) "__eq__" = some (some (.ref f))) (hf : isFn K (.ref f) = true)
    (h : wpAny (model prog w) A.in1 (call (.ref f) [.ref x, .ref y]) (fun v s' => ∃ b, v = .bool b ∧ Q (.bool (!b)) s') E s) : wpAny (model prog w) A (richCompare .NotEq (.ref x) (.ref y)) Q E s := by
  have one : wpAny (model prog w) A (tryCompare (.ref x) "__ne__" (.ref y)) (fun r s' => ∃ v, r = some v ∧ Q v s') E s := by
    unfold tryCompare
    refine wpAny_bind (ifBound_B X I hne F.cmp_object.ne.bind (wpAny_call (codeAny_call_builtin F.cmp_object.ne.plain F.cmpEntry_ne (check_slot_K F.cmpKind_ne F.cmpSplit_ne (F.cmpArgs_ne _ _) X I hob
      (objNe_K (A := A.in1) X I hs hf (by simpa using hu) (wpAny_mono h (fun v s' hv => ?_) fun _ _ e => e))))))
    obtain ⟨b, rfl, hq⟩ := hv
    exact ⟨b, rfl, wpAny_pure ⟨_, rfl, hq⟩⟩
  unfold richCompare
  simp only [oneThing_ref]
  refine wpAny_holding (wpAny_bind (wpAny_cRoomFor (Nat.lt_of_succ_lt hu) ?_))
  rw [cmpInfo_NotEq]
  dsimp only
  refine wpAny_bind (I.type.here (wpAny_bind (hb.here ?_)))
  rw [show (Value.ref C != Value.ref C) = false from by simp]
  simp only [Bool.false_eq_true, if_false]
  refine wpAny_bind (wpAny_pure ?_)
  simp only [Bool.false_eq_true, if_false]
  refine wpAny_bind (wpAny_mono one (fun r s' z => ?_) fun _ _ e => e)
  obtain ⟨v, rfl, hq⟩ := z
  exact wpAny_pure hq
end
/-- the class c has its own ==, kept by g -/
structure EqC (P : Program) (w : World) (K : PySem.W.Frag) (mg : Str → Option Value) (base : Heap) (cls : Str → Addr) (c : Str) (k : Nat) (g : List Slot → R Val) : Prop where
  ex : ∃ f fd ps, FnOk P w K mg base (L2.CX P w) k f fd ps (spG ⟨K, cls, none⟩ g) ∧ Binds K fd ps [] ∧ PySem.W.findIn K (.ref (cls c)) "__eq__" = some (some (.ref f)) ∧ PySem.W.isFn K (.ref f) = true
  ne : PySem.W.findIn K (.ref (cls c)) "__ne__" = some (some (.builtin "object.__ne__"))
  ob : PySem.W.subIn K (.ref (cls c)) (.type "object") = some true
section
variable {X : Cx} {cls : Str → Addr} {c : Str} {k : Nat} {g : List Slot → R Val} {E : XK} {a0 : Option Addr}
def rOwn (K : PySem.W.Frag) (C : Addr) (g : List Slot → R Val) (cls : Str → Addr) (E : XK) (neg : Bool) : R2 := fun x y H Q => ∃ a b dx dy fs gs, x = .ref a ∧ y = .ref b ∧ H a = some (.ins C dx fs) ∧ H b = some (.ins C dy gs) ∧
  spG ⟨K, cls, none⟩ g [x, y] H (fun v H' => ∃ r, v = .bl r ∧ Q (.bl (ng neg r)) H') E
theorem op_own (C : EqC X.prog X.w X.K X.mg X.base cls c k g) (hr : Room k X.A) (hr1 : Room k X.A.in1) (hu : X.A.units + 1 < cLine) (hx : Passes (L2.CX X.prog X.w) X E) (neg : Bool) :
    OpR X (compareOp (if neg then .NotEq else .Eq)) (rOwn X.K (cls c) g cls E neg) := by
  intro pins s σ H x y v u Q I rx ry h
  obtain ⟨a, b, dx, dy, fs, gs, rfl, rfl, ha, hb', hsp⟩ := h
  obtain ⟨f, fd, ps, F, hb, hs, hf⟩ := C.ex
  cases rx
  cases ry
  obtain ⟨mA, J, _⟩ := ins_get I.hok ha
  obtain ⟨mB, J', _⟩ := ins_get I.hok hb'
  obtain ⟨od, J, _⟩ := J.look
  obtain ⟨od', J', _⟩ := J'.look
  obtain ⟨m, hF⟩ := I.fr
  have hl := F.len _ _ _ _ hsp
  have r2 : Vals [V.ref a, V.ref b] [Value.ref a, Value.ref b] := .cons rfl (.cons rfl .nil)
  have e0 := I.env0
  have go : ∀ (A : Around) (Q' : Value → Shared → Prop), Room k A → A.frames = X.A.frames → (∀ r s', EP X pins σ (fun v H' => ∃ r, v = .bl r ∧ Q (.bl (ng neg r)) H') r s' → Q' r s') → wpAny (model X.prog X.w) A (call (.ref f) [.ref a, .ref b]) Q' X.xe s := fun A Q' hA hfr hq' => by
    have e1 : Env0 X.prog X.w X.K X.mg X.base A X.stack s H := ⟨by rw [hfr]; exact e0.frames, e0.mod, e0.bs, e0.bsz, e0.funs, e0.frf, e0.hok, e0.bare⟩
    refine wpAny_call (codeAny_mono (F.run A X.stack s H ⟨[.ref a, .ref b], []⟩ [.ref a, .ref b] [.ref a, .ref b] _ E hA e1 (by
      have := hb s [.ref a, .ref b] I.kIn (by simpa using hl)
      simpa using this) r2 hsp) fun r s' hq => ?_)
    cases r with
    | error e => exact hx pins σ H s e s' I hq
    | ok fl =>
      cases fl with
      | ret w => exact hq' _ _ (I.after hq)
      | next => exact False.elim hq
      | brk => exact False.elim hq
      | cont => exact False.elim hq
  cases neg with
  | false =>
    show wpAny _ _ (richCompare .Eq _ _) _ _ _
    refine PySem.W.cmp_K (op := .Eq) (tb := .ref (cls c)) (by omega) hF I.ok.mod.kin J J'.type (by simp [PySem.W.notFirst]) hs hf (go X.A _ hr rfl fun r s' q => ?_)
    obtain ⟨z, H', I', rz, r0, ez, ex⟩ := q
    subst ez
    cases rz
    exact ⟨.bl _, H', I', rfl, ex⟩
  | true =>
    show wpAny _ _ (richCompare .NotEq _ _) _ _ _
    refine ne_own_K hu I.kIn J J'.type C.ne C.ob hs hf (go X.A.in1 _ hr1 rfl fun r s' q => ?_)
    obtain ⟨z, H', I', rz, r0, ez, ex⟩ := q
    subst ez
    cases rz
    exact ⟨_, rfl, .bl _, H', I', rfl, ex⟩
end

/-! ### == of pictures and of data -/
def ownF (c : Str) (g : List Slot → R Val) (neg : Bool) (Γ : Gam) (a b : Val) : R Val := match viewI Γ a with
  | some (ca, _) => match viewI Γ b with
    | some (cb, _) => if ca = c ∧ cb = c then (callV g Γ [a, b]).bind fun v Γ1 => match v with
        | .f (.bool r) => .ok (.f (.bool (ng neg r))) Γ1
        | _ => .stuck
      else .stuck
    | none => .stuck
  | none => eqF neg Γ a b
section
variable {X : Cx} {cls : Str → Addr} {c : Str} {k : Nat} {g : List Slot → R Val} {E : XK} {a0 : Option Addr} {e e2 : Expr} {pos : Pos} {ma mb : Gam → R Val}
theorem cmp_if {neg : Bool} {A B : CmpOp} : (if neg = true then A else B) = (match neg with | true => A | false => B) := by cases neg <;> rfl
theorem os_own {Γ : Gam} {σ : L2.St} {F0 H0 : Hp} {own0 : Own} {F H : Hp} {own : Own} {x y : V} {a b : Val} {Q : VK} {neg : Bool} {K : PySem.W.Frag} (s : StR ⟨K, cls, a0⟩ Γ σ F H own) (st : Step F0 H0 own0 F H own) (rx : ValRd ⟨K, cls, a0⟩ σ F x a) (ry : ValRd ⟨K, cls, a0⟩ σ F y b)
    (p : PostG (relV ⟨K, cls, a0⟩) ⟨K, cls, a0⟩ E σ F0 H0 own0 Q (ownF c g neg Γ a b)) : rOwn K (cls c) g cls E neg x y H Q ∨ rEqP K neg x y H Q := by
  unfold ownF at p
  split at p
  · rename_i ca fa ha
    split at p
    · rename_i cb fb hb
      split at p
      · rename_i hc
        obtain ⟨rfl, rfl⟩ := hc
        obtain ⟨q, dx, fs, rfl, h1, _⟩ := view_I s rx ha
        obtain ⟨q2, dy, gs, rfl, h2, _⟩ := view_I s ry hb
        refine .inl ⟨q, q2, dx, dy, fs, gs, rfl, rfl, h1, h2, ?_⟩
        refine callV_ok (M := ⟨K, cls, a0⟩) s st (.cons rx (.cons ry .nil)) (post_bind p fun F1 H1 own1 Γ1 z v _ st1 s1 r1 p1 => ?_)
        split at p1
        · rename_i r _
          cases r1
          exact ⟨r, rfl, p1 _ F1 H1 own1 st1 s1 (.bl _)⟩
        · exact p1.elim
      · exact p.elim
    · exact p.elim
  · exact .inr (os_eq (M := ⟨K, cls, a0⟩) neg E Γ σ F0 H0 own0 F H own x y a b Q s st rx ry p)
theorem op_ownAll (C : EqC X.prog X.w X.K X.mg X.base cls c k g) (hr : Room (k + 1) X.A) (hx : Passes (L2.CX X.prog X.w) X E) (neg : Bool) :
    OpR X (compareOp (if neg then .NotEq else .Eq)) (fun x y H Q => rOwn X.K (cls c) g cls E neg x y H Q ∨ rEqP X.K neg x y H Q) := by
  have hu := hr.units
  refine (op_own C (hr.mono (by omega)) hr.in1 (by omega) hx neg).or ?_
  cases neg
  · exact op_eqP hu
  · exact op_neP hu
theorem e_own (C : EqC X.prog X.w X.K X.mg X.base cls c k g) (hr : Room (k + 1) X.A) (hx : Passes (L2.CX X.prog X.w) X E) (neg : Bool) {op : CmpOp} (hop : op = if neg then .NotEq else .Eq)
    (ha : PE X e (tE ⟨X.K, cls, a0⟩ E ma)) (hb : PE X e2 (tE ⟨X.K, cls, a0⟩ E mb)) (hm : behindInMarks op e2 = false) : PE X (.Compare e [op] [e2] pos) (tE ⟨X.K, cls, a0⟩ E (bin (ownF c g neg) ma mb)) := by
  subst hop
  refine PE_weak (pe_cmpR (op_ownAll C hr hx neg) (pe_rd ha) (pe_rd hb) hm) fun σ H Q h => ?_
  obtain ⟨Γ, F, own, st, p⟩ := h
  refine ⟨Γ, F, own, st, post_bind p fun F1 H1 own1 Γ1 x va _ st1 s1 r1 p1 => ⟨Γ1, F1, own1, st1, post_bind (p1.mono (back_V _) s1) fun F2 H2 own2 Γ2 y vb _ st2 s2 r2 p2 => ?_⟩⟩
  exact os_own st2 s2 (ValRd.mono s2.ff r1) r2 p2
theorem t_own (C : EqC X.prog X.w X.K X.mg X.base cls c k g) (hr : Room (k + 1) X.A) (hx : Passes (L2.CX X.prog X.w) X E) (neg : Bool) {op : CmpOp} (hop : op = if neg then .NotEq else .Eq)
    (ha : PE X e (tE ⟨X.K, cls, a0⟩ E ma)) (hb : PE X e2 (tE ⟨X.K, cls, a0⟩ E mb)) (hm : behindInMarks op e2 = false) : PT X (.Compare e [op] [e2] pos) (tT ⟨X.K, cls, a0⟩ E (testM (bin (ownF c g neg) ma mb))) := by
  subst hop
  refine PT_weak (pt_cmpR (op_ownAll C hr hx neg) (pe_rd ha) (pe_rd hb) hm) fun σ H Q q => ?_
  obtain ⟨Γ, F, own, st, p⟩ := tT_down q
  refine ⟨Γ, F, own, st, post_bind p fun F1 H1 own1 Γ1 x va _ st1 s1 r1 p1 => ⟨Γ1, F1, own1, st1, post_bind (p1.mono (back_V _) s1) fun F2 H2 own2 Γ2 y vb _ st2 s2 r2 p2 => ?_⟩⟩
  exact os_own st2 s2 (ValRd.mono s2.ff r1) r2 p2
end
end DL
end

section
set_option Elab.async false
set_option linter.all false
set_option maxRecDepth 100000
set_option autoImplicit false
set_option maxHeartbeats 1000000
/-! DL25: sorted(xs, key=f), f a def of the text. -/
namespace DL
open PySem PySem.Calls PySem.Spec PyProof.Rows L2
open PySem.W (sortVals keysOf_zip sortVals_length AllAlike Sortable EachIs dataLe SortsAt dataKind KeyedOut keyedOut_each copyHeap sorted_of_sort copyHeap_at copyHeap_old bound_map sortingHeap sortingHeap_old)
section
variable {prog : Program} {w : World} {A : Around} {E : Value → Shared → Prop} {s : Shared} {a kS : Addr} {b : Bool} {vs : List Value} {keys : Array Value} {e e1 : Nat} {P : PySem.Fin → Shared → Prop} {kz : List PyData}
def KeepTwo (a c : Addr) (h h' : Heap) : Prop := ∀ b o, b ≠ a → b ≠ c → h.get? b = some o → h'.get? b = some o
theorem keyJ_tail {st : SortSt} {out : List Value} (nk : s.heap.get? kS = some (seqObj "list" keys e)) (na : s.heap.get? a = some (seqObj "list" #[] e1)) (hka : kS ≠ a)
    (hsz : keys.size ≤ sizeLine) (hz : out.length ≤ sizeLine) (hfl : failedOf st = none) (ho : (if b = true then ((arrOf st).map (·.2)).reverse else (arrOf st).map (·.2)) = out.toArray)
    (h : ∀ h' tk c, KeepTwo a kS s.heap h' → h'.get? a = some (seqObj "list" out.toArray c) → P (.done (.ret .none)) { s with heap := h', toks := tk }) :
    wpAny (model prog w) A (ksk_tail a b e1 (.ref kS) st) P E s := by
  have s1 := Heap.SameBut.update s.heap kS (Obj.mapSeq fun _ => (#[] : Array Value))
  have na1 : (s.heap.update kS (Obj.mapSeq fun _ => (#[] : Array Value))).get? a = some (seqObj "list" #[] e1) := (s1.2 a hka.symm).trans na
  have s2 := Heap.SameBut.update (s.heap.update kS (Obj.mapSeq fun _ => (#[] : Array Value))) a (Obj.mapSeq fun _ => out.toArray)
  obtain ⟨c2, hc2⟩ : ∃ c2, ((s.heap.update kS (Obj.mapSeq fun _ => (#[] : Array Value))).update a (Obj.mapSeq fun _ => out.toArray)).get? a = some (seqObj "list" out.toArray c2) :=
    ⟨_, get?_update_seq na1 fun _ => out.toArray⟩
  have hz2 : out.toArray.size ≤ sizeLine + 1 := by
    rw [List.size_toArray]
    exact Nat.le_succ_of_le hz
  unfold ksk_tail
  try dsimp only
  rw [ho]
  refine wpAny_bind (listUpdate_at nk rfl ?_ hsz (Nat.zero_le _))
  refine wpAny_bind (wpAny_letGo ?_)
  refine wpAny_bind (seqEpoch_at na1 rfl ?_)
  refine wpAny_bind (listUpdate_at na1 rfl ?_ (Nat.zero_le _) hz2)
  rw [hfl]
  simp only [bne_self_eq_false, Bool.false_eq_true, if_false]
  exact wpAny_pure (h _ _ c2 (fun b o h1 h2 q => (s2.2 b h1).trans ((s1.2 b h2).trans q)) hc2)
theorem keyJ_end {κ : PyProof.Rows.KeyKind} (nk : s.heap.get? kS = some (seqObj "list" keys e)) (na : s.heap.get? a = some (seqObj "list" #[] e1)) (hka : kS ≠ a)
    (S : SortsAt prog w A s κ keys.toList) (hsz : keys.size = vs.length) (hZ : vs.length ≤ sizeLine)
    (h : ∀ h' tk c, KeepTwo a kS s.heap h' → h'.get? a = some (seqObj "list" (sortVals κ b keys.toList vs).toArray c) → P (.done (.ret .none)) { s with heap := h', toks := tk }) :
    wpAny (model prog w) A (ksk_end a b vs.toArray e1 (.ref kS) keys) P E s := by
  obtain ⟨kd, h1, h2⟩ := S.kind
  have hkl : keys.toList.length = vs.length := by
    rw [Array.length_toList]
    exact hsz
  have hK : PyProof.Rows.KeysOf κ (keys.zip vs.toArray) := keysOf_zip S.keys
  have hol : (sortVals κ b keys.toList vs).length = vs.length := sortVals_length b hkl
  have hstart : (if b = true then (keys.zip vs.toArray).reverse else keys.zip vs.toArray).Perm (keys.zip vs.toArray) := by
    cases b with
    | false => exact Array.Perm.refl _
    | true => exact Array.perm_iff_toList_perm.mpr (by rw [if_pos rfl, Array.toList_reverse]; exact List.reverse_perm _)
  have hss : (if b = true then (keys.zip vs.toArray).reverse else keys.zip vs.toArray).size = vs.length := by rw [hstart.size_eq, Array.size_zip, hsz, List.size_toArray, Nat.min_self]
  have fin : ∀ st' : SortSt, (arrOf st').Perm (if b = true then (keys.zip vs.toArray).reverse else keys.zip vs.toArray) → SortedToK κ (arrOf st') (if b = true then (keys.zip vs.toArray).reverse else keys.zip vs.toArray).size →
      Stable κ (arrOf st') (if b = true then (keys.zip vs.toArray).reverse else keys.zip vs.toArray) → (if b = true then ((arrOf st').map (·.2)).reverse else (arrOf st').map (·.2)) = (sortVals κ b keys.toList vs).toArray := by
    intro st' hp hs ht
    have e := PySem.W.sort_out (rev := b) (keys := keys) (items := vs.toArray) (xs := arrOf st') (κ := κ) hK hp hs ht
    have e' := congrArg List.toArray e
    rw [Array.toArray_toList] at e'
    exact e'
  have step : ∀ t : Sem PySem.Fin, wpAny (model prog w) A t P E s → wpAny (model prog w) A (if b = true then (do let _ ← rule "list.sort.reverse"; t) else t) P E s := by
    intro t ht
    split
    · exact wpAny_bind (wpAny_rule ht)
    · exact ht
  unfold ksk_end
  try dsimp only
  refine step _ ?_
  by_cases hl2 : vs.toArray.size < 2
  · rw [if_pos hl2, if_pos hl2]
    refine wpAny_bind (wpAny_pure ?_)
    rw [StateT.run_pure]
    refine wpAny_bind (wpAny_pure ?_)
    try dsimp only
    refine keyJ_tail (st := SortSt.mk' general' (if b = true then (keys.zip vs.toArray).reverse else keys.zip vs.toArray) #[] 7 none) nk na hka (by rw [hsz]; exact hZ) (by rw [hol]; exact hZ) rfl (fin _ (Array.Perm.refl _) ?_ (Stable.refl _)) h
    intro i j hij hj
    rw [hss] at hj
    rw [List.size_toArray] at hl2
    have : i = j := by omega
    subst this
    exact KeyOrd.kle_refl _
  · rw [if_neg hl2, if_neg hl2]
    rw [List.size_toArray] at hl2
    refine wpAny_bind (h2 (by omega) _ ?_)
    refine wpAny_bind (wpAny_mono (H.wpS_sortRunsSt (κ := κ) (kd := kd) (a₀ := if b = true then (keys.zip vs.toArray).reverse else keys.zip vs.toArray)
      (st := SortSt.mk' kd (if b = true then (keys.zip vs.toArray).reverse else keys.zip vs.toArray) #[] 7 none)
      (Q := fun _ st' => failedOf st' = none ∧ (if b = true then ((arrOf st').map (·.2)).reverse else (arrOf st').map (·.2)) = (sortVals κ b keys.toList vs).toArray)
      h1 (hK.perm hstart) ⟨Array.Perm.refl _, rfl, rfl⟩ rfl (Stable.refl _) (by rw [hss]; omega) fun st' a1 a2 a3 a4 => ⟨a2, fin st' a1 a3 a4⟩) ?_ fun _ _ e => e)
    rintro ⟨⟨⟩, st'⟩ s' ⟨rfl, hf, ho⟩
    try dsimp only at ho ⊢
    exact keyJ_tail nk na hka (by rw [hsz]; exact hZ) (by rw [hol]; exact hZ) hf ho h
end
mutual
theorem dpEx {K : PySem.W.Frag} {H H' : Hp} (e : Ex H H') : ∀ {v : V} {d : D}, Dp K H v d → Dp K H' v d
  | _, _, .non => .non
  | _, _, .bl b => .bl b
  | _, _, .int i => .int i
  | _, _, .str x => .str x
  | _, _, .lst h r => .lst (sqL_ex e h) (dpExAll e r)
  | _, _, .tup h r => .tup (SqT.ext h e) (dpExAll e r)
theorem dpExAll {K : PySem.W.Frag} {H H' : Hp} (e : Ex H H') : ∀ {vs : List V} {ds : List D}, DpAll K H vs ds → DpAll K H' vs ds
  | _, _, .nil => .nil
  | _, _, .cons h r => .cons (dpEx e h) (dpExAll e r)
end
def noE : XK := fun _ _ _ => False
section
variable {prog : Program} {w : World} {A : Around} {E : Value → Shared → Prop} {s : Shared}
theorem collect_tupS {l : Addr} {vs : List Value} {Q : List Value → Shared → Prop} (hl : s.heap.IsTuple l vs.toArray)
    (h : Q vs { s with heap := (s.heap.push (seqObj "list" #[] 0)).update s.heap.objs.size (Obj.mapSeq (· ++ vs.toArray)) }) (hsz : vs.length ≤ sizeLine) :
    wpAny (model prog w) A (collect (.ref l)) Q E s := by
  obtain ⟨o, ho, hc, n, hd⟩ := id hl
  unfold collect
  refine wpAny_bind (wpAny_runValue (codeAny_builtin entry_proto_collect' ?_))
  show wpAny _ _ (do again (.builtin "list.__iadd__" ⟨[← newList [], .ref l], []⟩)) _ _ s
  refine wpAny_bind (wpAny_newList (wpAny_pure ⟨Code.quiet_builtin _ (by decide +kernel), codeAny_builtin entry_list_iadd' ?_⟩))
  show wpAny _ _ (Builtin.List.listExtendWith (.ref s.heap.objs.size) (.ref l) (.ref s.heap.objs.size)) _ _ { s with heap := s.heap.push (seqObj "list" #[] 0) }
  unfold Builtin.List.listExtendWith
  have ho' : (s.heap.push (seqObj "list" #[] 0)).get? l = some o := Heap.get?_push_of_some _ ho
  refine wpAny_bind (wpAny_typeOf (T := "tuple") ⟨o, ho', hc⟩ ?_)
  have ht : (Value.type "tuple" == Value.type "tuple") = true := by rfl
  rw [if_pos (by rw [ht]; simp)]
  refine wpAny_bind (listItems_at ho' hd ?_)
  refine wpAny_bind (listItems_at (xs := #[]) (n := 0) (Heap.get?_push_size _ rfl) rfl ?_)
  rw [if_neg (by simp)]
  refine wpAny_bind (listUpdate_at (xs := #[]) (n := 0) (Heap.get?_push_size _ rfl) rfl ?_ (Nat.zero_le _) (by show (#[] ++ vs.toArray).size ≤ sizeLine + 1; simp only [Array.size_append, List.size_toArray, List.length_nil]; omega))
  refine wpAny_pure ?_
  show wpAny (model prog w) A (do
      let o ← load s.heap.objs.size
      match o.data with
      | .seq xs _ => pure xs.toList
      | _ => unsupported "internal:collect") Q E { s with heap := (s.heap.push (seqObj "list" #[] 0)).update s.heap.objs.size (Obj.mapSeq (· ++ vs.toArray)) }
  refine wpAny_bind (wpAny_load (get?_update_seq (Heap.get?_push_size _ rfl) _) ?_)
  show wpAny _ _ (pure ((#[] : Array Value) ++ vs.toArray).toList) Q E _
  rw [show ((#[] : Array Value) ++ vs.toArray).toList = vs by simp]
  exact wpAny_pure h
theorem sorted_of_sortS {l : Addr} {vs : List Value} {kw : List (Str × Value)} {Q : Value → Shared → Prop} (hl : s.heap.IsList l vs.toArray ∨ s.heap.IsTuple l vs.toArray) (hL : vs.length ≤ sizeLine) (ha1 : argsOk "sorted" ⟨[.ref l], kw⟩) (ha2 : ∀ x, argsOk "list.sort" ⟨[.ref x], kw⟩)
    (body : ∀ E' : Value → Shared → Prop, wpAny (model prog w) A.in1.in1 (Builtin.«list.sort» ⟨[.ref (s.heap.objs.size + 1)], kw⟩) (fun f s' => f = .done (.ret .none) ∧ Q (.ref (s.heap.objs.size + 1)) s') E' { s with heap := copyHeap s.heap vs }) :
    wpAny (model prog w) A (call (.builtin "sorted") [.ref l] kw) Q E s := by
  rcases hl with hl | hl
  · exact sorted_of_sort hl hL ha1 ha2 body
  refine call_function_entry_kw kind_sorted plain_sorted entry_sorted ha1 ?_
  unfold Builtin.«sorted»
  refine wpAny_bind (m := checkCount "sorted" 1 1 _) (wpAny_pure ?_)
  refine wpAny_bind (collect_tupS hl ?_ hL)
  refine wpAny_bind (wpAny_newList ?_ hL)
  have hsz : ((s.heap.push (seqObj "list" #[] 0)).update s.heap.objs.size (Obj.mapSeq (· ++ vs.toArray))).objs.size = s.heap.objs.size + 1 := by
    rw [Heap.size_update, size_push']
  show wpAny _ _ _ _ _ { s with heap := copyHeap s.heap vs }
  rw [hsz]
  refine wpAny_bind (wpAny_holding (wpAny_call_entry_kw slot_list_sort ⟨_, copyHeap_at s.heap vs, rfl⟩ entry_list_sort ?body (ha2 _)))
  case body =>
    show wpAny (model prog w) A.in1.in1 (Builtin.«list.sort» ⟨[.ref (s.heap.objs.size + 1)], kw⟩) _ _ _
    refine wpAny_mono (body _) (fun f s' hf => ?_) fun _ _ e => e
    obtain ⟨rfl, hq⟩ := hf
    exact ⟨_, rfl, wpAny_pure ⟨_, rfl, hq⟩⟩
end
theorem each_take_snoc {α β : Type} {R : α → β → Prop} : ∀ {as : List α} {bs : List β} {a : α} {b : β}, EachIs R as bs → R a b → EachIs R (as ++ [a]) (bs ++ [b])
  | _, _, _, _, .nil, h => .cons h .nil
  | _, _, _, _, .cons q t, h => .cons q (each_take_snoc t h)
section
variable {X : Cx} {k : Nat} {f : Addr} {fd : FuncData} {ps : List Str} {sp : Sp}
def rSortedKey (K : PySem.W.Frag) (sp : Sp) (f : Addr) : List V → List V → Hp → VK → Prop := fun vs zs H Q => ∃ (a : Addr) (bs : List (V × D)), vs = [.ref a] ∧ zs = [.ref f] ∧ (SqL K H a (bs.map (·.1)) ∨ SqT K H a (bs.map (·.1))) ∧ okS (bs.map (·.2)) = true ∧
  (∀ b ∈ bs, ∀ Hi, Ex H Hi → sp [b.1] Hi (fun kv H2 => Ex Hi H2 ∧ Dp K H2 kv b.2) noE) ∧
  ∀ p H2, Ex H H2 → H p = none → H2 p = none → Q (.ref p) (upd H2 p (.lst ((bs.mergeSort (dataLe false sd)).map (·.1))))
theorem call_sortedKey (F : FnOk X.prog X.w X.K X.mg X.base (L2.CX X.prog X.w) k f fd ps sp) (hr : Room (k + 2) X.A) (hb : Binds X.K fd ps []) : CallRK X (.builtin "sorted") [Str.ofString "key"] (rSortedKey X.K sp f) := by
  intro pins s σ H vs zs us ws Q I r rz h
  obtain ⟨a, bs, rfl, rfl, hs, ok, hk, q⟩ := h
  obtain ⟨its, rv, hl⟩ : ∃ its : List Value, Vals (bs.map (·.1)) its ∧ (s.heap.IsList a its.toArray ∨ s.heap.IsTuple a its.toArray) := by
    rcases hs with hs | hs
    · obtain ⟨its, rv, hl, hz⟩ := I.list hs
      exact ⟨its, rv, .inl hl.isList⟩
    · obtain ⟨its, rv, hl, hz⟩ := I.tuple hs
      exact ⟨its, rv, .inr hl⟩
  obtain ⟨u, rfl, ru⟩ := vals1 r
  obtain rfl : u = Value.ref a := ru
  obtain ⟨u2, rfl, ru2⟩ := vals1 rz
  obtain rfl : u2 = Value.ref f := ru2
  have e1 : EachIs (fun u (b : V × D) => RelV b.1 u) its bs := each_of (H := H) (s := s) (K := X.K) rv
  have hlen : its.length = bs.length := e1.length
  have hL : its.length ≤ sizeLine := by
    have := okS_3 ok
    simp at this
    omega
  have hu := hr.units
  have hr1 : Room k X.A.in1.in1 := Room.in1 (Room.in1 hr)
  have fresh1 : s.heap.objs.size ≤ s.heap.objs.size + 1 := Nat.le_succ _
  have up0 : ∀ b o, s.heap.get? b = some o → (copyHeap s.heap its).get? b = some o := fun b o e => copyHeap_old e
  have I0 : Inv X pins σ H { s with heap := copyHeap s.heap its } := I.kept (t' := s.toks) up0
  refine sorted_of_sortS hl hL (ksk_s1 _ _) (fun _ => ksk_l1 _ _) fun E' => ?_
  show wpAny _ _ (Builtin.«list.sort» ⟨[.ref (s.heap.objs.size + 1)], [(Str.ofString "key", .ref f)]⟩) _ _ _
  rw [ksk_t1]
  generalize hS : s.heap.objs.size + 1 = S
  have hSat : (copyHeap s.heap its).get? S = some (seqObj "list" its.toArray 0) := by rw [← hS]; exact copyHeap_at s.heap its
  have fpS : FpOk X pins H S := I.fpOk (by omega) (I.hok.fresh (by omega))
  have Sl : S < (copyHeap s.heap its).objs.size := Heap.lt_size hSat
  obtain ⟨e1', ho1⟩ : ∃ e1, ((copyHeap s.heap its).update S (Obj.mapSeq fun _ => (#[] : Array Value))).get? S = some (seqObj "list" #[] e1) := ⟨_, get?_update_seq hSat fun _ => #[]⟩
  generalize hkSe : (copyHeap s.heap its).objs.size + 1 = kS
  have hkS : (((copyHeap s.heap its).update S (Obj.mapSeq fun _ => (#[] : Array Value))).push (seqObj "tuple" its.toArray 0)).objs.size = kS := by rw [size_push', Heap.size_update, hkSe]
  unfold ksk_tree
  refine wpAny_bind (listItems_at hSat rfl ?_)
  refine wpAny_bind (listUpdate_at hSat rfl ?_ (by rw [List.size_toArray]; exact hL) (Nat.zero_le _))
  refine wpAny_bind (seqEpoch_at ho1 rfl ?_)
  refine wpAny_bind (wpAny_newTuple ?_ (by show its.length ≤ _; exact hL))
  refine wpAny_bind (wpAny_newList ?_ (Nat.zero_le _))
  refine wpAny_holding ?_
  have fpK : FpOk X pins H kS := I0.fpOk (by show (copyHeap s.heap its).objs.size ≤ kS; omega) (I0.hok.fresh (by show (copyHeap s.heap its).objs.size ≤ kS; omega))
  have nkS : kS ≠ S := by omega
  have kp : ∀ b o, b ∉ [S] → (copyHeap s.heap its).get? b = some o → (sortingHeap (copyHeap s.heap its) S its).get? b = some o := fun b o hb e => sortingHeap_old (fun z => hb (by simp [z])) e
  have I1 : Inv X pins σ H { s with heap := sortingHeap (copyHeap s.heap its) S its } := L2.Inv.turnedL (s := { s with heap := copyHeap s.heap its }) (t' := s.toks) (ch := [S]) I0 kp (fun b hb => by
    rw [List.mem_singleton.mp hb]
    exact fpS)
  have nk0 : (sortingHeap (copyHeap s.heap its) S its).get? kS = some (seqObj "list" #[] 0) := by rw [← hkS]; exact Heap.get?_push_size _ rfl
  have na0 : (sortingHeap (copyHeap s.heap its) S its).get? S = some (seqObj "list" #[] e1') := Heap.get?_push_of_some _ (Heap.get?_push_of_some _ ho1)
  show wpAny _ _ (ksk_rest S (.ref f) false its.toArray e1' (.ref (((copyHeap s.heap its).update S (Obj.mapSeq fun _ => (#[] : Array Value))).push (seqObj "tuple" its.toArray 0)).objs.size)) _ _ { s with heap := sortingHeap (copyHeap s.heap its) S its }
  rw [hkS]
  unfold ksk_rest
  refine wpAny_bind (wpAny_rule ?_)
  first
    | rw [List.forIn_toArray]
    | (rw [← Array.forIn_toList]; simp only [List.toList_toArray])
    | rw [← Array.forIn_toList]
  refine wpAny_bind (ksk_fold (fun i s' => ∃ (Hi : Hp) (kA : Array Value) (ep : Nat), Inv X pins σ Hi s' ∧ Ex H Hi ∧ FpOk X pins Hi S ∧ FpOk X pins Hi kS ∧ s'.heap.get? kS = some (seqObj "list" kA ep) ∧ s'.heap.get? S = some (seqObj "list" #[] e1') ∧
      EachIs (fun v kd => ∃ kv, RelV kv v ∧ Dp X.K Hi kv kd) kA.toList ((bs.map (·.2)).take i)) its 0 _
    ⟨H, #[], 0, I1, .refl _, fpS, fpK, nk0, na0, by rw [List.take_zero]; exact EachIs.nil⟩ ?step ?done)
  case step =>
    rintro j x s' hx ⟨Hi, kA, ep, Ii, xi, fS, fK, nk, na, hkeys⟩
    simp only [Nat.zero_add] at hkeys ⊢
    have hj : j < its.length := (List.getElem?_eq_some_iff.mp hx).1
    obtain ⟨b, hbj⟩ : ∃ b, bs[j]? = some b := ⟨_, List.getElem?_eq_getElem (by omega)⟩
    have rb : RelV b.1 x := by
      have hz : (x, b) ∈ its.zip bs := List.mem_of_getElem? (i := j) (by rw [List.getElem?_zip_eq_some]; exact ⟨hx, hbj⟩)
      exact e1.zip _ hz
    have hsz : kA.size = j := by
      have h1 := hkeys.length
      rw [Array.length_toList, List.length_take, List.length_map] at h1
      omega
    have hsp := hk b (List.mem_of_getElem? hbj) Hi xi
    have Ip := Ii.pinned (fp := [S, kS]) (fun c hc => by
      rcases List.mem_cons.mp hc with z | z
      · rw [z]; exact fS
      · rw [List.mem_singleton.mp z]; exact fK) (fun c hc => by
      rcases List.mem_cons.mp hc with z | z
      · rw [z]; exact ⟨_, na, fun v q => nomatch q⟩
      · rw [List.mem_singleton.mp z]; exact ⟨_, nk, fun v q => nomatch q⟩)
    have e0 := Ip.env0
    have ev : Env0 X.prog X.w X.K X.mg X.base X.A.in1.in1 X.stack s' Hi := ⟨e0.frames, e0.mod, e0.bs, e0.bsz, e0.funs, e0.frf, e0.hok, e0.bare⟩
    have hlf := F.len _ _ _ _ hsp
    refine wpAny_bind (wpAny_attempt (wpAny_call (codeAny_mono (F.run X.A.in1.in1 X.stack s' Hi ⟨[x], []⟩ [x] [b.1] _ noE hr1 ev (by
      have := hb s' [x] Ip.kIn (by simpa using hlf)
      simpa using this) (.cons rb .nil) hsp) fun r s2 hq => ?_)))
    cases r with
    | error e =>
      obtain ⟨_, _, _, _, _, _, _, _, _, _, _, _, hF⟩ := hq
      exact hF.elim
    | ok fl =>
      cases fl with
      | next => exact False.elim hq
      | brk => exact False.elim hq
      | cont => exact False.elim hq
      | ret kw =>
        obtain ⟨kv, H2, I2, rk, x2, dk⟩ := Ip.after hq
        have pS := I2.pin (S, seqObj "list" #[] e1') (List.mem_append_right _ (List.mem_append_right _ (mem_pinsAt (List.mem_cons_self) na)))
        have pK := I2.pin (kS, seqObj "list" kA ep) (List.mem_append_right _ (List.mem_append_right _ (mem_pinsAt (List.mem_cons_of_mem _ List.mem_cons_self) nk)))
        have I2' := I2.unpinned
        have fS2 : FpOk X pins H2 S := ⟨pS.2.1, fS.2⟩
        have fK2 : FpOk X pins H2 kS := ⟨pK.2.1, fK.2⟩
        try dsimp only
        have s1 := Heap.SameBut.update s2.heap kS (Obj.mapSeq (·.push kw))
        obtain ⟨c2, hc2⟩ : ∃ c2, (s2.heap.update kS (Obj.mapSeq (·.push kw))).get? kS = some (seqObj "list" (kA.push kw) c2) := ⟨_, get?_update_seq pK.1 (·.push kw)⟩
        have ek : (bs.map (·.2)).take (j + 1) = (bs.map (·.2)).take j ++ [b.2] := by rw [List.take_add_one, List.getElem?_map, hbj]; simp
        have ea : (kA.push kw).toList = kA.toList ++ [kw] := by simp
        refine wpAny_bind (listUpdate_at pK.1 rfl ?_ (by rw [hsz]; omega) (by show (kA.push kw).size ≤ sizeLine + 1; rw [Array.size_push, hsz]; omega))
        refine wpAny_pure ⟨rfl, H2, kA.push kw, c2, ?_, xi.trans x2, fS2, fK2, hc2, (s1.2 S nkS.symm).trans pS.1, ?_⟩
        · exact I2'.turnedL (t' := s2.toks) (ch := [kS]) (fun c o hc e => (s1.2 c (fun z => hc (by simp [z]))).trans e) (fun c hc => by
            rw [List.mem_singleton.mp hc]
            exact fK2)
        · rw [ea, ek]
          exact each_take_snoc (hkeys.mono fun v kd ⟨kv', r1, r2⟩ => ⟨kv', r1, dpEx x2 r2⟩) ⟨kv, rk, dk⟩
  case done =>
    rintro s' ⟨Hi, kA, ep, Ii, xi, fS, fK, nk, na, hkeys⟩
    have e3 : (bs.map (·.2)).take (0 + its.length) = bs.map (·.2) := List.take_of_length_le (by rw [List.length_map]; omega)
    rw [e3] at hkeys
    have hk' : EachIs (fun v kd => ∃ as, Reads s'.heap v kd as) kA.toList (bs.map (·.2)) := hkeys.mono fun v kd ⟨kv, r1, r2⟩ => Dp.reads Ii _ _ _ r2 r1
    have hsz : kA.size = its.length := by
      have h1 := hk'.length
      rw [Array.length_toList, List.length_map] at h1
      omega
    try dsimp only
    refine wpAny_bind (listItems_at nk rfl ?_)
    have hS' : SortsAt X.prog X.w X.A.in1.in1 s' (dataKind s'.heap (bs.map (·.2))) kA.toList := SortsAt.data hk' (okS_1 ok) (okS_2 ok) fun d hd => by
      have := (okS_4 ok hd).2
      show X.A.units + 1 + 1 + d.depth < cLine
      omega
    refine keyJ_end (κ := dataKind s'.heap (bs.map (·.2))) nk na nkS hS' hsz hL fun h3 tk3 c k3 n3 => ?_
    have ko : KeyedOut false (bs.map (·.2)) its (sortVals (dataKind s'.heap (bs.map (·.2))) false kA.toList its) := ⟨s'.heap, kA.toList, okS_1 ok, rfl, hk'⟩
    have eo := keyedOut_each (R := fun u (b : V × D) => RelV b.1 u) (·.2) ko e1
    have hol : (sortVals (dataKind s'.heap (bs.map (·.2))) false kA.toList its).length = its.length := sortVals_length false (by rw [Array.length_toList]; exact hsz)
    have I3 : Inv X pins σ Hi { s' with heap := h3, toks := tk3 } := Ii.turnedL (t' := tk3) (ch := [S, kS]) (fun c o hc e => k3 c o (fun z => hc (by simp [z])) (fun z => hc (by simp [z])) e) (fun c hc => by
      rcases List.mem_cons.mp hc with z | z
      · rw [z]; exact fS
      · rw [List.mem_singleton.mp z]; exact fK)
    have hll : ((bs.mergeSort (dataLe false sd)).map (·.1)).length ≤ sizeLine := by
      simp
      omega
    have I4 := I3.take (h' := h3) (t' := tk3) (it := S) (o := .lst ((bs.mergeSort (dataLe false sd)).map (·.1))) (fun _ _ _ e => e) fS ⟨hll, _, c, vals_each eo, n3⟩
    exact ⟨rfl, .ref S, _, I4, rfl, q S Hi xi (I.hok.fresh (by omega)) fS.1⟩
end

/-! ### sorted(xs, key=f) of data -/
def keysG (g : List Slot → R Val) : List D → Option (List D)
  | [] => some []
  | d :: ds => match g [.val d], keysG g ds with
    | .ok (.f k) _, some ks => some (k :: ks)
    | _, _ => none
def sortKF (g : List Slot → R Val) (Γ : Gam) (v : Val) : R Val := match viewD Γ v with
  | some (.list ds) => match keysG g ds with
    | some ks => if okS ks = true then .ok (.n (.ol ((srt (dataLe false fun p : D × D => p.2) (ds.zip ks)).map (·.1)))) Γ else .stuck
    | none => .stuck
  | some (.tuple ds) => match keysG g ds with
    | some ks => if okS ks = true then .ok (.n (.ol ((srt (dataLe false fun p : D × D => p.2) (ds.zip ks)).map (·.1)))) Γ else .stuck
    | none => .stuck
  | _ => .stuck
def sortKM (g : List Slot → R Val) (m : Gam → R Val) : Gam → R Val := fun Γ => (rd m Γ).bind fun v Γ1 => sortKF g Γ1 v
theorem keysG_len {g : List Slot → R Val} : ∀ {ds ks : List D}, keysG g ds = some ks → ks.length = ds.length
  | [], _, h => by
    cases h
    rfl
  | d :: ds, ks, h => by
    simp only [keysG] at h
    split at h
    · rename_i k _ ks' _ h2
      cases h
      simp [keysG_len h2]
    · cases h
theorem keysG_at {g : List Slot → R Val} : ∀ {ds ks : List D}, keysG g ds = some ks → ∀ (i : Nat) (d k : D), ds[i]? = some d → ks[i]? = some k → ∃ As, g [.val d] = .ok (.f k) As
  | [], _, h, i, d, k, e, _ => by simp at e
  | x :: ds, ks, h, i, d, k, e1, e2 => by
    simp only [keysG] at h
    split at h
    · rename_i k0 As ks' h1 h2
      cases h
      cases i with
      | zero =>
        simp at e1 e2
        subst e1 e2
        exact ⟨_, h1⟩
      | succ i => exact keysG_at h2 i d k (by simpa using e1) (by simpa using e2)
    · cases h
theorem dataLe_sd (p q : V × D) : dataLe false sd p q = dLe p.2 q.2 := rfl
section
variable {X : Cx} {M : Pm} {E : XK} {e : Expr} {m : Gam → R Val} {p p2 kpos pos : Pos} {cls : Str → Addr} {a0 : Option Addr} {k : Nat} {x : Str} {g : List Slot → R Val}
/-- three lists in step: sorted by the last -/
theorem sort_step {cls : Str → Addr} {F : Hp} {vs : List V} {ds ks : List D} (r : RepAll cls F vs ds) (hl : ks.length = ds.length) :
    RepAll cls F (((vs.zip ks).mergeSort (dataLe false sd)).map (·.1)) (((ds.zip ks).mergeSort (dataLe false fun p : D × D => p.2)).map (·.1)) := by
  have hlv := r.length
  -- sort triples
  let T : List (V × D × D) := vs.zip (ds.zip ks)
  have h1 : (T.mergeSort (dataLe false fun t : V × D × D => t.2.2)).map (fun t => (t.1, t.2.2)) = (vs.zip ks).mergeSort (dataLe false sd) := by
    have eT : T.map (fun t => (t.1, t.2.2)) = vs.zip ks := by
      apply List.ext_getElem?
      intro i
      simp only [T, List.getElem?_map, List.zip_eq_zipWith, List.getElem?_zipWith]
      cases h1 : vs[i]? <;> cases h2 : ds[i]? <;> cases h3 : ks[i]? <;> simp
      · exact absurd h2 (by
          have a1 := (List.getElem?_eq_some_iff.mp h1).1
          rw [List.getElem?_eq_none_iff]
          omega)
    rw [← eT, List.map_mergeSort (r := dataLe false fun t : V × D × D => t.2.2) (s := dataLe false sd) (f := fun t : V × D × D => (t.1, t.2.2)) (hl := fun a _ b _ => rfl)]
  have h2 : (T.mergeSort (dataLe false fun t : V × D × D => t.2.2)).map (fun t => (t.2.1, t.2.2)) = (ds.zip ks).mergeSort (dataLe false fun p : D × D => p.2) := by
    have eT : T.map (fun t => (t.2.1, t.2.2)) = ds.zip ks := by
      apply List.ext_getElem?
      intro i
      simp only [T, List.getElem?_map, List.zip_eq_zipWith, List.getElem?_zipWith]
      cases h1 : vs[i]? <;> cases h2 : ds[i]? <;> cases h3 : ks[i]? <;> simp
      · exact absurd h1 (by
          have a1 := (List.getElem?_eq_some_iff.mp h2).1
          rw [List.getElem?_eq_none_iff]
          omega)
    rw [← eT, List.map_mergeSort (r := dataLe false fun t : V × D × D => t.2.2) (s := dataLe false fun p : D × D => p.2) (f := fun t : V × D × D => (t.2.1, t.2.2)) (hl := fun a _ b _ => rfl)]
  rw [← h1, ← h2, List.map_map, List.map_map]
  have hT : ∀ t ∈ T, Rep cls F t.1 t.2.1 := by
    intro t ht
    obtain ⟨i, hi⟩ := List.mem_iff_getElem?.mp ht
    have := List.getElem?_zip_eq_some.mp hi
    have h4 := List.getElem?_zip_eq_some.mp this.2
    exact r.get i _ _ this.1 h4.1
  generalize hW : T.mergeSort (dataLe false fun t : V × D × D => t.2.2) = W
  have hW2 : ∀ t ∈ W, Rep cls F t.1 t.2.1 := fun t ht => hT t (by
    rw [← hW] at ht
    exact (List.mergeSort_perm _ _).mem_iff.mp ht)
  clear hW
  induction W with
  | nil => exact .nil
  | cons t W ih => exact .cons (hW2 t List.mem_cons_self) (ih fun u hu => hW2 u (List.mem_cons_of_mem _ hu))
theorem key_turn {K : PySem.W.Frag} {F : Hp} {v : V} {d kd : D} {As : List Slot} {Hi : Hp} (fh : Ex F Hi) (r : Rep cls F v d) (hg : g [.val d] = .ok (.f kd) As) (hp : kd.plain = true) :
    spG ⟨K, cls, none⟩ g [v] Hi (fun kv H2 => Ex Hi H2 ∧ Dp K H2 kv kd) noE := by
  have sA := args_state (M := ⟨K, cls, none⟩) fh (RepAll.cons r .nil)
  refine ⟨[.val d], F, _, sA, ?_⟩
  rw [hg]
  intro x F' H' own' s1 st1 rv
  exact ⟨fun a o h => st1.hh a o h fun _ z => z.elim, dp_up s1.fh rv hp⟩
theorem e_sortK (C : FnC X.prog X.w X.K X.mg X.base cls x k g) (hr : Room (k + 2) X.A) (hg : Gl X "sorted") (hm : X.mg "sorted" = none) (hgx : Gl X x) (he : PE X e (tE ⟨X.K, cls, a0⟩ E m)) (hdx : (x == ("__debug__" : Str)) = false := by decide)
    (hst : starEach [e] X.env = [(false, eval e X.env)] := by rfl)
    (hb : backTo pos (starEach [e] X.env) = (false, eval e X.env) :: backTo pos (starEach [] X.env) := by rfl) (hpl : (backTo pos (starEach [e] X.env)).any (·.1) = false := by rfl)
    (hall : (backToKw pos (keywordEach [⟨some "key", .Name x p2, kpos⟩] X.env)).all (·.1.isSome) = true := by rfl) (hnone : (backToKw pos (keywordEach [⟨some "key", .Name x p2, kpos⟩] X.env)).any (·.1.isNone) = false := by rfl) (hks : (backToKw pos (keywordEach [⟨some "key", .Name x p2, kpos⟩] X.env)).filterMap (·.1) = [Str.ofString "key"] := by rfl) :
    PE X (.Call (.Name "sorted" p) [e] [⟨some "key", .Name x p2, kpos⟩] pos) (tE ⟨X.K, cls, a0⟩ E (sortKM g m)) := by
  obtain ⟨f, fd, ps, F, hf, hk, hbi⟩ := C
  refine PE_weak (pe_callBK (call_sortedKey F hr hbi) hg hm PyProof.Rows.boot_sorted (pa_cons (pe_rd he) pa_nil hst) (pk_cons (pe_gcD (v := .ref f) hgx ⟨.ref f, hf, rfl⟩ hdx) pk_nil) (by decide) (by decide) hb hpl hall hnone hks) fun σ H Q q => ?_
  obtain ⟨Γ, Fh, own, st, p⟩ := q
  refine ⟨Γ, Fh, own, st, post_bind p fun F1 H1 own1 Γ1 v va _ st1 s1 r1 p1 => ?_⟩
  show rSortedKey X.K _ f [v] [.ref f] H1 Q
  have main : ∀ {vs : List V} {ds ks : List D} {a : Addr}, v = .ref a → (SqL X.K H1 a vs ∨ SqT X.K H1 a vs) → RepAll cls F1 vs ds → keysG g ds = some ks → okS ks = true →
      PostG (relV ⟨X.K, cls, a0⟩) ⟨X.K, cls, a0⟩ E σ Fh H own Q (.ok (.n (.ol (((ds.zip ks).mergeSort (dataLe false fun p : D × D => p.2)).map (·.1)))) Γ1) → rSortedKey X.K (spG ⟨X.K, cls, none⟩ g) f [v] [.ref f] H1 Q := fun {vs ds ks a} e1 h1 h2 h3 ok p2 => by
    subst e1
    have hlk := keysG_len h3
    have hlv := h2.length
    have z1 : (vs.zip ks).map (·.1) = vs := by rw [List.map_fst_zip]; omega
    have z2 : (vs.zip ks).map (·.2) = ks := by rw [List.map_snd_zip]; omega
    refine ⟨a, vs.zip ks, rfl, rfl, by rw [z1]; exact h1, by rw [z2]; exact ok, fun b hb Hi xi => ?_, fun q H2 x2 n1 n2 => ?_⟩
    · obtain ⟨i, hi⟩ := List.mem_iff_getElem?.mp hb
      obtain ⟨q1, q2⟩ := List.getElem?_zip_eq_some.mp hi
      obtain ⟨d, q3, q4⟩ := h2.at' i _ q1
      obtain ⟨As, q5⟩ := keysG_at h3 i d b.2 q3 q2
      exact key_turn (st1.fh.trans xi) q4 q5 (okS_4 ok (List.mem_of_getElem? q2)).1
    · have G : Grow F1 H1 F1 (upd H2 q (.lst (((vs.zip ks).mergeSort (dataLe false sd)).map (·.1)))) := ⟨.refl _, x2.trans (.new n2), st1.fh.trans (x2.trans (.new n2)), fun _ h _ => h⟩
      refine p2 _ _ _ own1 (st1.grow G) (s1.trans (G.step own1)) ⟨fun c => c = q, ⟨q, _, rfl, fun c => Iff.rfl, upd_same, sort_step h2 hlk⟩, fun c hc => ?_⟩
      have hc : c = q := hc
      subst hc
      refine ⟨st1.fh.back n1, by rw [upd_same]; simp, fun i hi => st1.there i c hi n1, ?_⟩
      cases e0 : H c with
      | none => rfl
      | some o => exact absurd n1 (s1.al c (by rw [e0]; simp))
  unfold sortKF at p1
  split at p1
  · rename_i ds hv
    obtain ⟨l, vs, rfl, h1, h2⟩ := view_list st1 r1 hv
    split at p1
    · rename_i ks hks'
      split at p1
      · rename_i ok
        rw [srt_eq] at p1
        exact main rfl (.inl h1) h2 hks' ok p1
      · exact p1.elim
    · exact p1.elim
  · rename_i ds hv
    obtain ⟨l, vs, rfl, _, h1, h2⟩ := view_tup st1 r1 hv
    split at p1
    · rename_i ks hks'
      split at p1
      · rename_i ok
        rw [srt_eq] at p1
        exact main rfl (.inr h1) h2 hks' ok p1
      · exact p1.elim
    · exact p1.elim
  · exact p1.elim
end
end DL
end

section
set_option Elab.async false
set_option linter.all false
set_option maxRecDepth 100000
set_option autoImplicit false
set_option maxHeartbeats 1000000
/-! DL26: the dict in a basis, the lists of a pairing. -/
namespace DL
open PySem PySem.Spec PyProof.Rows L2
def kdOf : D → Option (List (Key × D))
  | .dict ((.none, .int 0) :: r) => prsK r
  | _ => none
theorem kdOf_some {d : D} {kds : List (Key × D)} (h : kdOf d = some kds) : d = dicK kds := by
  unfold kdOf at h
  split at h
  · rw [prsK_some h]
    rfl
  · cases h
@[simp] theorem kdOf_dicK (kds : List (Key × D)) : kdOf (dicK kds) = some kds := prsK_map kds
/-- the dict `kept` of the object in slot 0 -/
def keptOf (Γ : Gam) : Option (List (Key × D)) := match Γ[(0 : Nat)]? with
  | some (.box 1 _ d) => kdOf d
  | some (.one (.fz d)) => match decI d with
    | some (c, [(f, dk)]) => if c = "Basis" ∧ f = "kept" then kdOf dk else none
    | _ => none
  | _ => none
section
variable {M : Pm} {Γ : Gam} {σ : L2.St} {F H : Hp} {own : Own}
theorem kept_at (s : StR M Γ σ F H own) {kds : List (Key × D)} (h : keptOf Γ = some kds) : ∃ a dx k kvs, σ[0]? = some (some (.ref a)) ∧ H a = some (.ins (M.cls "Basis") dx [("kept", .ref k)]) ∧ H k = some (.dK kvs) ∧ kvs.map (·.1) = kds.map (·.1) ∧ RepAll M.cls F (kvs.map (·.2)) (kds.map (·.2)) := by
  unfold keptOf at h
  split at h
  · rename_i pin d hs
    obtain ⟨a, h0, _, hb⟩ := s.slot 0 _ hs
    generalize hn : (1 : Nat) = n at hb
    cases hb with
    | rng => cases hn
    | par => cases hn
    | bas h1 h2 h3 h4 h5 h6 =>
      rw [kdOf_dicK] at h
      cases h
      exact ⟨_, _, _, _, h0, h1, h2, h3, h4⟩
  · rename_i d hs
    obtain ⟨v, h0, _, hr⟩ := s.slot 0 _ hs
    split at h
    · rename_i c f dk hd
      split at h
      · rename_i hc
        obtain ⟨rfl, rfl⟩ := hc
        rw [decI_some hd] at hr
        obtain ⟨a, dx, fs, rfl, h1, h2, h3⟩ := Rep.invI hr
        have hfs : ∃ v, fs = [(("kept" : Str), v)] := by
          cases fs with
          | nil => simp at h2
          | cons p r =>
            cases r with
            | nil =>
              obtain ⟨n, v⟩ := p
              simp at h2
              exact ⟨v, by rw [h2]⟩
            | cons q r => simp at h2
        obtain ⟨v, rfl⟩ := hfs
        cases h3 with
        | cons h4 h5 =>
          rw [kdOf_some h] at h4
          obtain ⟨k, kvs, rfl, h6, h7, h8⟩ := Rep.invK h4
          exact ⟨a, dx, k, kvs, h0, s.fh _ _ h1, s.fh _ _ h6, h7, h8⟩
      · cases h
    · cases h
  · cases h
end
section
variable {X : Cx} {M : Pm} {E : XK} {e o : Expr} {es : List Expr} {me : Gam → R Val} {p pos apos : Pos} {op : CmpOp}
/-- x in self.kept -/
def kinM (m : Gam → R Val) : Gam → R Val := fun Γ => (rd m Γ).bind fun v Γ1 => match v with
  | .f d => match keyOf d, keptOf Γ1 with
    | some k, some kds => .ok (.f (.bool (look kds k).isSome)) Γ1
    | _, _ => .stuck
  | _ => .stuck
theorem tE_kin {σ : L2.St} {H : Hp} {Q : VK} (hA : AttrOk M "Basis" "kept") (q : tE M E (kinM me) σ H Q) : tD M E (rd me) σ H fun x H1 => tFld M.K (tVar 0) "kept" σ H1 fun y H2 => rInDict false x y H2 Q := by
  obtain ⟨Γ, F, own, st, p⟩ := q
  refine ⟨Γ, F, own, st, post_bind p fun F1 H1 own1 Γ1 x v _ st1 s1 r1 p1 => ?_⟩
  cases v with
  | f d =>
    simp only at p1
    split at p1
    · rename_i k kds hk hkd
      obtain ⟨a, dx, kA, kvs, h0, h1, h2, h3, h4⟩ := kept_at st1 hkd
      refine ⟨_, h0, a, _, dx, _, .ref kA, rfl, h1, hA.cl, hA.no, rfl, ?_⟩
      obtain ⟨o, g, ro⟩ := dget_k (.inl h2) h3 h4 r1 hk
      refine ⟨kA, o, rfl, g, ?_⟩
      rw [if_neg (by decide), ro.isSome]
      exact post_now st1 s1 p1 (.bl _)
    · exact p1.elim
  | b i => exact p1.elim
  | n f => exact r1.elim
  | nc c f => exact r1.elim
  | nb n f => exact r1.elim
theorem e_kin (hu : X.A.units + 64 < cLine) (hA : AttrOk M "Basis" "kept") (hK : X.K = M.K) (hv : PE X o (tVar 0)) (he : PE X e (tE M E me)) (hm : behindInMarks .In (.Attribute o "kept" apos) = false) (hb : attributeBase o "kept" X.env (eval o X.env) = eval o X.env := by rfl) :
    PE X (.Compare e [.In] [.Attribute o "kept" apos] pos) (tE M E (kinM me)) :=
  PE_weak (pe_cmpR (op_inDict hu) (pe_rd he) (pe_fld hv hb) hm) fun _ _ _ q => by rw [hK]; exact tE_kin hA q
theorem t_kin (hu : X.A.units + 64 < cLine) (hA : AttrOk M "Basis" "kept") (hK : X.K = M.K) (hv : PE X o (tVar 0)) (he : PE X e (tE M E me)) (hm : behindInMarks .In (.Attribute o "kept" apos) = false) (hb : attributeBase o "kept" X.env (eval o X.env) = eval o X.env := by rfl) :
    PT X (.Compare e [.In] [.Attribute o "kept" apos] pos) (tT M E (testM (kinM me))) :=
  PT_weak (pt_cmpR (op_inDict hu) (pe_rd he) (pe_fld hv hb) hm) fun _ _ _ q => by rw [hK]; exact tE_kin hA (tT_down q)
/-- len(self.kept) -/
def klenM : Gam → R Val := fun Γ => match keptOf Γ with
  | some kds => .ok (.f (.int kds.length)) Γ
  | none => .stuck
theorem e_klen (hA : AttrOk M "Basis" "kept") (hK : X.K = M.K) (hv : PE X o (tVar 0)) (hg : Gl X "len") (hm : X.mg "len" = none) (hb : attributeBase o "kept" X.env (eval o X.env) = eval o X.env := by rfl)
    (hs : starEach [.Attribute o "kept" apos] X.env = [(false, eval (.Attribute o "kept" apos) X.env)] := by rfl)
    (hpl : (backTo pos (starEach [] X.env)).any (·.1) = false := by rfl) : PE X (.Call (.Name "len" p) [.Attribute o "kept" apos] [] pos) (tE M E klenM) :=
  PE_weak (pe_callB call_lenD hg hm PySem.boot_len (pa_cons (pe_fld hv hb) pa_nil hs)) fun σ H Q q => by
    obtain ⟨Γ, F, own, st, p⟩ := q
    unfold klenM at p
    split at p
    · rename_i kds hkd
      obtain ⟨a, dx, kA, kvs, h0, h1, h2, h3, h4⟩ := kept_at st hkd
      refine ⟨_, h0, a, _, dx, _, .ref kA, rfl, h1, by rw [hK]; exact hA.cl, by rw [hK]; exact hA.no, rfl, kA, kvs, rfl, h2, ?_⟩
      have hl : kvs.length = kds.length := by
        have := congrArg List.length h3
        simpa using this
      rw [hl]
      exact p _ F H own st (.refl _ _ _) (.int _)
    · exact p.elim
/-! ### f(x) of a def that keeps everything -/
theorem spG_val {M : Pm} {Γ : Gam} {σ : L2.St} {F H : Hp} {own : Own} {g : List Slot → R Val} {v : V} {d r : D} {As : List Slot} {Q : VK} (s : StR M Γ σ F H own) (rv : Rep M.cls F v d) (e : g [.val d] = .ok (.f r) As)
    (h : ∀ x F' H', Grow F H F' H' → Rep M.cls F' x r → Q x H') : spG ⟨M.K, M.cls, none⟩ g [v] H Q E := by
  have sA := args_state (M := ⟨M.K, M.cls, none⟩) s.fh (RepAll.cons rv .nil)
  refine ⟨[.val d], F, _, sA, ?_⟩
  rw [e]
  intro x F' H' own' s1 st1 rv'
  exact h x F' H' ⟨st1.ff, fun a o q => st1.hh a o q fun _ z => z.elim, s1.fh, fun a h1 h2 => st1.nf a h1 h2 fun _ z => z.elim⟩ rv'
theorem pe_pure1 {i : Nat} {x : Str} {k : Nat} {g : List Slot → R Val} {cls : Str → Addr} (C : FnC X.prog X.w X.K X.mg X.base cls x k g) (hr : Room k X.A) (hg : Gl X x) (hx : Passes (L2.CX X.prog X.w) X E) (hv : PE X e (tVar i)) (hdb : (x == ("__debug__" : Str)) = false := by decide)
    (hs : starEach [e] X.env = [(false, eval e X.env)] := by rfl) (hpl : (backTo pos (starEach [] X.env)).any (·.1) = false := by rfl) :
    PE X (.Call (.Name x p) [e] [] pos) (fun σ H Q => ∃ v, σ[i]? = some (some v) ∧ spG ⟨X.K, cls, none⟩ g [v] H Q E) := by
  obtain ⟨f, fd, ps, F, hm, hk, hb⟩ := C
  exact pe_call F hr hg hm hk hb .nil hx (pa_cons hv pa_nil hs) hdb hs hpl
/-- self.kept[f(x)] -/
def kgetM (g : List Slot → R Val) (i : Nat) : Gam → R Val := fun Γ => match Γ[i]? with
  | some (.one (.fz d)) => match g [.val d] with
    | .ok (.f r) _ => match keyOf r, keptOf Γ with
      | some k, some kds => match look kds k with
        | some v => .ok (.f v) Γ
        | none => .stuck
      | _, _ => .stuck
    | _ => .stuck
  | _ => .stuck
theorem e_kget {i : Nat} {x : Str} {k : Nat} {g : List Slot → R Val} {cls : Str → Addr} {a0 : Option Addr} {cpos : Pos} (C : FnC X.prog X.w X.K X.mg X.base cls x k g) (hr : Room k X.A) (hg : Gl X x) (hx : Passes (L2.CX X.prog X.w) X E) (hA : AttrOk ⟨X.K, cls, a0⟩ "Basis" "kept") (hv0 : PE X o (tVar 0)) (hv : PE X e (tVar i)) (hdb : (x == ("__debug__" : Str)) = false := by decide)
    (hb : attributeBase o "kept" X.env (eval o X.env) = eval o X.env := by rfl) (hp : PlainIx (.Call (.Name x p) [e] [] cpos) := by intro _ _; rfl)
    (hs : starEach [e] X.env = [(false, eval e X.env)] := by rfl) (hpl : (backTo cpos (starEach [] X.env)).any (·.1) = false := by rfl) :
    PE X (.Subscript (.Attribute o "kept" apos) (.Call (.Name x p) [e] [] cpos) pos) (tE ⟨X.K, cls, a0⟩ E (kgetM g i)) :=
  PE_weak (pe_ix (ix_dict hr.units) (pe_fld hv0 hb) (pe_pure1 C hr hg hx hv hdb hs hpl) hp) fun σ H Q q => by
    obtain ⟨Γ, F, own, st, p⟩ := q
    unfold kgetM at p
    split at p
    · rename_i d hi
      obtain ⟨v, hvi, _, rv⟩ := st.slot i _ hi
      split at p
      · rename_i r As hgr
        split at p
        · rename_i k kds hk hkd
          obtain ⟨a, dx, kA, kvs, h0, h1, h2, h3, h4⟩ := kept_at st hkd
          split at p
          · rename_i w hw
            refine ⟨_, h0, a, _, dx, _, .ref kA, rfl, h1, hA.cl, hA.no, rfl, v, hvi, spG_val st rv hgr fun y F' H' G ry => ?_⟩
            obtain ⟨o', g', ro⟩ := dget_k (.inl (G.hh _ _ h2)) h3 (h4.mono G.ff) ry hk
            rw [hw] at ro
            obtain ⟨w', rfl, rw'⟩ := repO_some ro
            exact ⟨kA, w', rfl, g', p _ F' H' own (st.grow G) (G.step own) rw'⟩
          · exact p.elim
        · exact p.elim
      · exact p.elim
    · exact p.elim
/-! ### writes within a slot's own objects -/
theorem StR.wr {Γ : Gam} {σ : L2.St} {F H H' : Hp} {own : Own} {i : Nat} {x : Slot} {o : Ow} (s : StR M Γ σ F H own) (hi : i < Γ.length) (hk : ∀ a u, H a = some u → ¬ own i a → H' a = some u) (hal : ∀ a, H a ≠ none → H' a ≠ none) (ho : ∀ a, o a → F a = none) (ht : ∀ a, o a → H' a ≠ none)
    (hd : ∀ a, o a → own i a ∨ H a = none) (h : SlotR M F H' o σ[i]? x) : StR M (Γ.set i x) σ F H' (putO own i o) ∧ Step F H own F H' (putO own i o) := ⟨s.write hi hk ho ht hd h, Step.write hk hal hd⟩
/-- self.kept[f(x)] = e -/
def kputM (g : List Slot → R Val) (i : Nat) (me : Gam → R Val) : Gam → RS := fun Γ => stm (fzL me Γ) fun d Γ1 => match Γ1[(0 : Nat)]? with
  | some (.box 1 pin dk) => match Γ1[i]? with
    | some (.one (.fz di)) => match g [.val di] with
      | .ok (.f r) _ => match keyOf r, kdOf dk with
        | some k, some kds => if kds.length < sizeLine then .nx (Γ1.set 0 (.box 1 pin (dicK (put kds k d)))) else .stuck
        | _, _ => .stuck
      | _ => .stuck
    | _ => .stuck
  | _ => .stuck
theorem s_kput {i : Nat} {x : Str} {k : Nat} {g : List Slot → R Val} {cls : Str → Addr} {a0 : Option Addr} {cpos pn : Pos} {value : Expr} (C : FnC X.prog X.w X.K X.mg X.base cls x k g) (hr : Room k X.A) (hg : Gl X x) (hx : Passes (L2.CX X.prog X.w) X E) (hA : AttrOk ⟨X.K, cls, a0⟩ "Basis" "kept") (hv0 : PE X o (tVar 0)) (hv : PE X e (tVar i)) (he : PE X value (tE ⟨X.K, cls, a0⟩ E me)) (hdb : (x == ("__debug__" : Str)) = false := by decide)
    (hb : attributeBase o "kept" X.env (eval o X.env) = eval o X.env := by rfl) (hsw : swapsWith value (some (.Subscript (.Attribute o "kept" apos) (.Call (.Name x pn) [e] [] cpos) p)) pos.line X.env = pure false := by rfl)
    (hs : starEach [e] X.env = [(false, eval e X.env)] := by rfl) (hpl : (backTo cpos (starEach [] X.env)).any (·.1) = false := by rfl) :
    PS X (.Assign [.Subscript (.Attribute o "kept" apos) (.Call (.Name x pn) [e] [] cpos) p] value pos) (tS ⟨X.K, cls, a0⟩ E (kputM g i me)) :=
  PS_weak (ps_dput (by have := hr.units; omega) (pe_fld hv0 hb) (pe_pure1 C hr hg hx hv hdb hs hpl) (pe_fz he) hsw) fun D σ H ⟨Γ, F, own, s, q⟩ =>
  ⟨Γ, F, own, s, post_stm q fun F1 H1 own1 Γ1 z d _ s1 st1 rz p => by
    split at p
    · rename_i pin dk hs0
      split at p
      · rename_i di hi
        split at p
        · rename_i r As hgr
          split at p
          · rename_i k kds hk hkd
            split at p
            · rename_i hz
              rw [kdOf_some hkd] at hs0
              obtain ⟨a, h0, hp, hbx⟩ := s1.slot 0 _ hs0
              generalize hn : (1 : Nat) = n at hbx
              generalize hdk : dicK kds = dd at hbx
              cases hbx with
              | rng => cases hn
              | par => cases hn
              | bas h1 h2 h3 h4 h5 h6 =>
                rename_i dx kA kvs kds'
                have hkk : kds' = kds := by
                  have := congrArg kdOf hdk
                  rw [kdOf_dicK, kdOf_dicK] at this
                  exact (Option.some.inj this).symm
                subst hkk
                obtain ⟨v, hvi, _, rv⟩ := s1.slot i _ hi
                refine ⟨_, h0, a, _, dx, _, .ref kA, rfl, h1, hA.cl, hA.no, rfl, v, hvi, spG_val s1 rv hgr fun y F' H' G ry => ?_⟩
                have s2 := s1.grow G
                have hlen : kvs.length = kds'.length := by
                  have := congrArg List.length h3
                  simpa using this
                rw [rep_key ry hk]
                refine ⟨kA, _, rfl, .k (G.hh _ _ h2) (by omega), ?_⟩
                have hownk : own1 0 kA := (h6 kA).mpr (.inr rfl)
                have hk' : ∀ b u, H' b = some u → ¬ own1 0 b → upd H' kA (.dK (putK kvs k z)) b = some u := fun b u q n => by
                  rw [upd_ne (fun e => n (by rw [e]; exact hownk))]
                  exact q
                have hal : ∀ b, H' b ≠ none → upd H' kA (.dK (putK kvs k z)) b ≠ none := fun b q => by
                  by_cases e : b = kA
                  · rw [e, upd_same]; simp
                  · rw [upd_ne e]; exact q
                have w := s2.wr (i := 0) (x := .box 1 pin (dicK (put kds' k d))) (o := own1 0) (s2.lt hs0) hk' hal (s2.free 0) (fun b hb => hal b (s2.there 0 b hb)) (fun b hb => .inl hb) (by
                  refine ⟨a, h0, hp, ?_⟩
                  exact .bas (by rw [upd_ne (Ne.symm h5)]; exact G.hh _ _ h1) upd_same (put_keys h3 k z d) (put_rep h3 (h4.mono G.ff) k (rz.mono G.ff)) h5 h6)
                exact p _ F' _ _ w.1 ((st1.trans (G.step own1)).trans w.2)
            · exact p.elim
          · exact p.elim
        · exact p.elim
      · exact p.elim
    · exact p.elim⟩
/-- self.kept = {} -/
def kinitM : Gam → RS := fun Γ => match Γ[(0 : Nat)]? with
  | some (.cmp c pin []) => if c = "Basis" then .nx (Γ.set 0 (.box 1 pin (dicK []))) else .stuck
  | _ => .stuck
theorem s_kinit {p1 p2 : Pos} (hA : AttrOk M "Basis" "kept") (hK : X.K = M.K) (hv0 : PE X o (tVar 0)) (hsw : swapsWith (.Dict [] [] p1) (some (.Attribute o "kept" p2)) pos.line X.env = pure false := by rfl) :
    PS X (.Assign [.Attribute o "kept" p2] (.Dict [] [] p1) pos) (tS M E kinitM) :=
  PS_weak (ps_fld hv0 pe_dnewK hsw) fun D σ H ⟨Γ, F, own, s, q⟩ => by
    unfold kinitM at q
    split at q
    · rename_i c pin hs0
      split at q
      · rename_i hc
        subst hc
        obtain ⟨a, h0, hp, dx, fs, h1, h2, h3, h4⟩ := s.slot 0 _ hs0
        have hfs : fs = [] := by
          cases fs with
          | nil => rfl
          | cons p r => simp at h3
        subst hfs
        intro l hl
        have hla : a ≠ l := ne_of_none h1 hl
        refine ⟨_, h0, a, _, dx, [], rfl, by rw [upd_ne hla]; exact h1, by rw [hK]; exact hA.cl, by rw [hK]; exact hA.no, by decide, ?_⟩
        have hown : own 0 a := (h2 a).mpr rfl
        have hfl : F l = none := s.fh.back hl
        have w := s.wr (H' := upd (upd H l (.dK [])) a (.ins (M.cls "Basis") dx (putF "kept" (.ref l) []))) (i := 0) (x := .box 1 pin (dicK [])) (o := fun b => b = a ∨ b = l) (s.lt hs0) (fun b u q n => by
            rw [upd_ne (fun e => n (by rw [e]; exact hown)), upd_ne (ne_of_none q hl)]
            exact q) (fun b q => by
            by_cases e : b = a
            · rw [e, upd_same]; simp
            · rw [upd_ne e]
              by_cases e' : b = l
              · rw [e', upd_same]; simp
              · rw [upd_ne e']; exact q) (fun b hb => by
            rcases hb with e | e
            · rw [e]; exact s.free 0 a hown
            · rw [e]; exact hfl) (fun b hb => by
            rcases hb with e | e
            · rw [e, upd_same]; simp
            · rw [e, upd_ne (Ne.symm hla), upd_same]; simp) (fun b hb => by
            rcases hb with e | e
            · rw [e]; exact .inl hown
            · rw [e]; exact .inr hl) ⟨a, h0, hp, .bas (kvs := []) (kds := []) (by rw [upd_same]; rfl) (by rw [upd_ne (Ne.symm hla), upd_same]) rfl .nil (Ne.symm hla) (fun b => Iff.rfl)⟩
        exact q _ F _ _ w.1 w.2
      · exact q.elim
    · exact q.elim
end
end DL
end

section
set_option Elab.async false
set_option linter.all false
set_option maxRecDepth 100000
set_option autoImplicit false
set_option maxHeartbeats 1000000
/-! DL27: the two of a pairing; list(d.values()). -/
namespace DL
open PySem PySem.Spec PyProof.Rows L2
section
variable {X : Cx} {o : Expr} {to : TE} {f : Str} {pos : Pos}
/-- o.f as a target -/
def gAttr (K : PySem.W.Frag) (to : TE) (f : Str) : TG := fun v σ H Q => to σ H fun x H1 => ∃ a C dx fs, x = .ref a ∧ H1 a = some (.ins C dx fs) ∧ Cls K C ∧ NoAttr K C f ∧ fs.length < 1000 ∧ Q σ (upd H1 a (.ins C dx (putF f v fs)))
theorem pg_attr (ho : PE X o to) : PG X (.Attribute o f pos) (gAttr X.K to f) := by
  refine ⟨fun pins s σ H v u Q I r h => ?_⟩
  rw [assign_Attribute]
  refine wpAny_bind (wpAny_holding (thn (ho.run pins s σ H _ I h) fun ov s1 ⟨x, H1, I1, r1, a, C, dx, fs, ex, ea, c, n, l, q⟩ => ?_))
  subst ex
  obtain rfl : ov = Value.ref a := r1
  refine wpAny_bind (wpAny_standAt (wpAny_bind (wpAny_holding (setattr_ok I1 ea c n l r fun s3 I3 => ?_))))
  exact wpAny_release ⟨σ, _, I3, q⟩
end
section
variable {X : Cx} {M : Pm} {E : XK} {e o : Expr} {es : List Expr} {me : Gam → R Val} {p pos apos : Pos}
/-- self.chains, self.ends = [], {} -/
def pinitM : Gam → RS := fun Γ => match Γ[(0 : Nat)]? with
  | some (.cmp c pin []) => if c = "Pairing" then .nx (Γ.set 0 (.box 2 pin (.tuple [.list [], dicK []]))) else .stuck
  | _ => .stuck
theorem s_pinit {o2 : Expr} {k1 k2} {p1 p2 p3 p4 pt p5 : Pos} (hc : X.calm = true) (hA : AttrOk M "Pairing" "chains") (hA2 : AttrOk M "Pairing" "ends") (hK : X.K = M.K) (hv0 : PE X o (tVar 0)) (hv1 : PE X o2 (tVar 0))
    (hs : swapsWithSole [.Tuple [.Attribute o "chains" p1, .Attribute o2 "ends" p2] k1 p3] (.Tuple [.List [] p4, .Dict [] [] p5] k2 pt) pos.line X.env = pure false := by rfl)
    (hw : swappedStores [.Tuple [.Attribute o "chains" p1, .Attribute o2 "ends" p2] k1 p3] (.Tuple [.List [] p4, .Dict [] [] p5] k2 pt) X.env = pure none := by rfl)
    (h1 : (assignEach [.Tuple [.Attribute o "chains" p1, .Attribute o2 "ends" p2] k1 p3] X.env).map (·.2) = [assign (.Tuple [.Attribute o "chains" p1, .Attribute o2 "ends" p2] k1 p3) X.env] := by rfl)
    (hn : (assignEach [.Attribute o "chains" p1, .Attribute o2 "ends" p2] X.env).length = 2 := by rfl) (hst : (assignEach [.Attribute o "chains" p1, .Attribute o2 "ends" p2] X.env).findIdx? (·.1) = none := by rfl)
    (hg1 : (assignEach [.Attribute o "chains" p1, .Attribute o2 "ends" p2] X.env).map (·.2) = assign (.Attribute o "chains" p1) X.env :: (assignEach [.Attribute o2 "ends" p2] X.env).map (·.2) := by rfl)
    (hg2 : (assignEach [.Attribute o2 "ends" p2] X.env).map (·.2) = assign (.Attribute o2 "ends" p2) X.env :: (assignEach [] X.env).map (·.2) := by rfl)
    (hp1 : starEach [.List [] p4, .Dict [] [] p5] X.env = (false, eval (.List [] p4) X.env) :: starEach [.Dict [] [] p5] X.env := by rfl) (hp2 : starEach [.Dict [] [] p5] X.env = (false, eval (.Dict [] [] p5) X.env) :: starEach [] X.env := by rfl) :
    PS X (.Assign [.Tuple [.Attribute o "chains" p1, .Attribute o2 "ends" p2] k1 p3] (.Tuple [.List [] p4, .Dict [] [] p5] k2 pt) pos) (tS M E pinitM) :=
  PS_weak (ps_asg (pe_tup (pa_cons (pe_lst pa_nil) (pa_cons pe_dnewK pa_nil hp2) hp1)) (pg_tup hc (pgs_cons (pg_attr (f := "chains") hv0) (pgs_cons (pg_attr (f := "ends") hv1) pgs_nil hg2) hg1) hn hst) hs hw h1) fun D σ H ⟨Γ, F, own, s, q⟩ => by
    unfold pinitM at q
    split at q
    · rename_i c pin hs0
      split at q
      · rename_i hc
        subst hc
        obtain ⟨a, h0, hp, dx, fs, h1, h2, h3, h4⟩ := s.slot 0 _ hs0
        have hfs : fs = [] := by
          cases fs with
          | nil => rfl
          | cons p r => simp at h3
        subst hfs
        refine ⟨by decide, fun l hl => ?_⟩
        intro k hk
        refine ⟨by show 2 ≤ sizeLine; decide, fun t ht => ?_⟩
        have hla : a ≠ l := ne_of_none h1 hl
        have h1l : upd H l (.lst []) a = some (.ins (M.cls "Pairing") dx []) := by rw [upd_ne hla]; exact h1
        have hka : a ≠ k := ne_of_none h1l hk
        have hlk : l ≠ k := ne_of_none upd_same hk
        have h1k : upd (upd H l (.lst [])) k (.dK []) a = some (.ins (M.cls "Pairing") dx []) := by rw [upd_ne hka]; exact h1l
        have hta : a ≠ t := ne_of_none h1k ht
        have htk : k ≠ t := ne_of_none upd_same ht
        have htl : l ≠ t := ne_of_none (by rw [upd_ne hlk]; exact upd_same) ht
        refine ⟨t, [.ref l, .ref k], rfl, .of upd_same, rfl, .ref l, [.ref k], rfl, ?_⟩
        refine ⟨_, h0, a, _, dx, [], rfl, by rw [upd_ne hta]; exact h1k, by rw [hK]; exact hA.cl, by rw [hK]; exact hA.no, by decide, ?_⟩
        refine ⟨.ref k, [], rfl, ?_⟩
        refine ⟨_, h0, a, _, dx, _, rfl, upd_same, by rw [hK]; exact hA2.cl, by rw [hK]; exact hA2.no, by show 1 < 1000; decide, rfl, ?_⟩
        have hown : own 0 a := (h2 a).mpr rfl
        have nl : H l = none := hl
        have nk : H k = none := by rw [upd_ne (Ne.symm hlk)] at hk; exact hk
        have nt : H t = none := by rw [upd_ne (Ne.symm htk), upd_ne (Ne.symm htl)] at ht; exact ht
        -- the tuple is laid, nobody owns it
        have w := s.wr (H' := upd (upd (upd (upd (upd H l (.lst [])) k (.dK [])) t (.tup [.ref l, .ref k])) a (.ins (M.cls "Pairing") dx (putF "chains" (.ref l) []))) a (.ins (M.cls "Pairing") dx (putF "ends" (.ref k) (putF "chains" (.ref l) []))))
          (i := 0) (x := .box 2 pin (.tuple [.list [], dicK []])) (o := fun b => b = a ∨ b = l ∨ b = k) (s.lt hs0) (fun b u q n => by
            have e1 : b ≠ a := fun e => n (by rw [e]; exact hown)
            rw [upd_ne e1, upd_ne e1, upd_ne (ne_of_none q nt), upd_ne (ne_of_none q nk), upd_ne (ne_of_none q nl)]
            exact q) (fun b q => by
            by_cases e : b = a
            · rw [e, upd_same]; simp
            · rw [upd_ne e, upd_ne e]
              by_cases e1 : b = t
              · rw [e1, upd_same]; simp
              · rw [upd_ne e1]
                by_cases e2 : b = k
                · rw [e2, upd_same]; simp
                · rw [upd_ne e2]
                  by_cases e3 : b = l
                  · rw [e3, upd_same]; simp
                  · rw [upd_ne e3]; exact q) (fun b hb => by
            rcases hb with e | e | e
            · rw [e]; exact s.free 0 a hown
            · rw [e]; exact s.fh.back nl
            · rw [e]; exact s.fh.back nk) (fun b hb => by
            rcases hb with e | e | e
            · rw [e, upd_same]; simp
            · rw [e, upd_ne (Ne.symm hla), upd_ne (Ne.symm hla), upd_ne htl, upd_ne hlk, upd_same]; simp
            · rw [e, upd_ne (Ne.symm hka), upd_ne (Ne.symm hka), upd_ne htk, upd_same]; simp) (fun b hb => by
            rcases hb with e | e | e
            · rw [e]; exact .inl hown
            · rw [e]; exact .inr nl
            · rw [e]; exact .inr nk) ⟨a, h0, hp, .par (vs := []) (ds := []) (kvs := []) (kds := []) (by rw [upd_same]; rfl) (by rw [upd_ne (Ne.symm hla), upd_ne (Ne.symm hla), upd_ne htl, upd_ne hlk, upd_same]) .nil (by rw [upd_ne (Ne.symm hka), upd_ne (Ne.symm hka), upd_ne htk, upd_same]) rfl .nil (Ne.symm hla) (Ne.symm hka) hlk (fun b => Iff.rfl)⟩
        exact q _ F _ _ w.1 w.2
      · exact q.elim
    · exact q.elim
theorem par_inv {cls : Str → Addr} {F H : Hp} {o : Addr → Prop} {a : Addr} {ds : List D} {kds : List (Key × D)} (h : BoxR cls 2 F H o a (.tuple [.list ds, dicK kds])) :
    ∃ dx l k vs kvs, H a = some (.ins (cls "Pairing") dx [("chains", .ref l), ("ends", .ref k)]) ∧ H l = some (.lst vs) ∧ RepAll cls F vs ds ∧ H k = some (.dK kvs) ∧ kvs.map (·.1) = kds.map (·.1) ∧ RepAll cls F (kvs.map (·.2)) (kds.map (·.2)) ∧ l ≠ a ∧ k ≠ a ∧ l ≠ k ∧ (∀ b, o b ↔ b = a ∨ b = l ∨ b = k) := by
  generalize hn : (2 : Nat) = n at h
  generalize hd : (PyData.tuple [.list ds, dicK kds] : D) = dd at h
  cases h with
  | rng => cases hn
  | bas => cases hn
  | par h1 h2 h3 h4 h5 h6 h7 h8 h9 h10 =>
    rename_i dx l k vs ds' kvs kds'
    simp only [PyData.tuple.injEq, List.cons.injEq, PyData.list.injEq, and_true] at hd
    obtain ⟨e1, e2⟩ := hd
    have e3 := congrArg kdOf e2
    rw [kdOf_dicK, kdOf_dicK] at e3
    cases e3
    subst e1
    exact ⟨dx, l, k, vs, kvs, h1, h2, h3, h4, h5, h6, h7, h8, h9, h10⟩
def parOf : Slot → Option (Option Addr × List D × List (Key × D))
  | .box 2 pin (.tuple [.list ds, dk]) => (kdOf dk).map fun kds => (pin, ds, kds)
  | _ => none
theorem parOf_some {sl : Slot} {pin : Option Addr} {ds : List D} {kds : List (Key × D)} (h : parOf sl = some (pin, ds, kds)) : sl = .box 2 pin (.tuple [.list ds, dicK kds]) := by
  unfold parOf at h
  split at h
  · rename_i pin' ds' dk
    cases e : kdOf dk with
    | none => rw [e] at h; cases h
    | some k =>
      rw [e] at h
      cases h
      rw [kdOf_some e]
  · cases h
/-- self.chains.append(x) -/
def pappM (j : Nat) : Gam → RS := fun Γ => match Γ[(0 : Nat)]? with
  | some sl => match parOf sl, Γ[j]? with
    | some (pin, ds, kds), some (.one (.fz d)) => if ds.length < sizeLine then .nx (Γ.set 0 (.box 2 pin (.tuple [.list (ds ++ [d]), dicK kds]))) else .stuck
    | _, _ => .stuck
  | none => .stuck
theorem s_papp {j : Nat} {p1 : Pos} (hA : AttrOk M "Pairing" "chains") (hK : X.K = M.K) (hv0 : PE X o (tVar 0)) (hv : PE X e (tVar j))
    (hb : attributeBase o "chains" X.env (eval o X.env) = eval o X.env := by rfl) (hbase : attributeBase (.Attribute o "chains" p1) "append" X.env (eval (.Attribute o "chains" p1) X.env) = eval (.Attribute o "chains" p1) X.env := by rfl)
    (hfew : ((backTo pos (starEach [e] X.env)).all (fun x => !x.1) && (backToKw pos (keywordEach [] X.env)).all (fun x => x.1.isSome)
      && decide (([e] : List Expr).length + ([] : List Keyword).length + (if ([] : List Keyword).isEmpty then 0 else 1) < 30)) = true := by rfl)
    (hline : (apos.endLine == pos.line) = true := by rfl) (hs : starEach [e] X.env = (false, eval e X.env) :: starEach [] X.env := by rfl) (hplain : (backTo pos (starEach [] X.env)).any (·.1) = false := by rfl)
    (hsw : swapsWith (.Call (.Attribute (.Attribute o "chains" p1) "append" apos) [e] [] pos) none p.line X.env = pure false := by rfl) :
    PS X (.Expr (.Call (.Attribute (.Attribute o "chains" p1) "append" apos) [e] [] pos) p) (tS M E (pappM j)) :=
  PS_weak (ps_expr (pe_bm PySem.F.plainAttrs_list PySem.F.slot_list_append PySem.F.type_list_append mt_append (pe_fld hv0 hb) (pa_cons hv pa_nil hs) hbase hfew hline hs hplain) hsw) fun D σ H ⟨Γ, F, own, s, q⟩ => by
    unfold pappM at q
    split at q
    · rename_i sl hs0
      split at q
      · rename_i pin ds kds d hpo hj
        split at q
        · rename_i hz
          rw [parOf_some hpo] at hs0
          obtain ⟨a, h0, hp, hbx⟩ := s.slot 0 _ hs0
          obtain ⟨dx, l, k, vs, kvs, h1, h2, h3, h4, h5, h6, h7, h8, h9, h10⟩ := par_inv hbx
          obtain ⟨v, hvj, _, rv⟩ := s.slot j _ hj
          refine ⟨_, h0, a, _, dx, _, .ref l, rfl, h1, by rw [hK]; exact hA.cl, by rw [hK]; exact hA.no, rfl, .inl ⟨rfl, vs, .of h2⟩, v, hvj, l, vs, v, rfl, rfl, h2, by rw [h3.length]; exact hz, ?_⟩
          have hown : own 0 l := (h10 l).mpr (.inr (.inl rfl))
          have w := s.wr (H' := upd H l (.lst (vs ++ [v]))) (i := 0) (x := .box 2 pin (.tuple [.list (ds ++ [d]), dicK kds])) (o := own 0) (s.lt hs0) (fun b u q n => by
            rw [upd_ne (fun e => n (by rw [e]; exact hown))]
            exact q) (fun b q => by
            by_cases e : b = l
            · rw [e, upd_same]; simp
            · rw [upd_ne e]; exact q) (s.free 0) (fun b hb => by
            by_cases e : b = l
            · rw [e, upd_same]; simp
            · rw [upd_ne e]; exact s.there 0 b hb) (fun b hb => .inl hb) ⟨a, h0, hp, .par (by rw [upd_ne (Ne.symm h7)]; exact h1) upd_same (h3.snoc rv) (by rw [upd_ne (Ne.symm h9)]; exact h4) h5 h6 h7 h8 h9 h10⟩
          exact q _ F _ _ w.1 w.2
        · exact q.elim
      · exact q.elim
    · exact q.elim
/-- self.ends[f(x)] = y -/
def pputM (g : List Slot → R Val) (i j : Nat) : Gam → RS := fun Γ => match Γ[(0 : Nat)]? with
  | some sl => match parOf sl, Γ[j]?, Γ[i]? with
    | some (pin, ds, kds), some (.one (.fz d)), some (.one (.fz di)) => match g [.val di] with
      | .ok (.f r) _ => match keyOf r with
        | some k => if kds.length < sizeLine then .nx (Γ.set 0 (.box 2 pin (.tuple [.list ds, dicK (put kds k d)]))) else .stuck
        | none => .stuck
      | _ => .stuck
    | _, _, _ => .stuck
  | none => .stuck
theorem s_pput {i j : Nat} {x : Str} {k : Nat} {g : List Slot → R Val} {cls : Str → Addr} {a0 : Option Addr} {cpos pn : Pos} {value : Expr} (C : FnC X.prog X.w X.K X.mg X.base cls x k g) (hr : Room k X.A) (hg : Gl X x) (hx : Passes (L2.CX X.prog X.w) X E) (hA : AttrOk ⟨X.K, cls, a0⟩ "Pairing" "ends") (hv0 : PE X o (tVar 0)) (hv : PE X e (tVar i)) (he : PE X value (tVar j)) (hdb : (x == ("__debug__" : Str)) = false := by decide)
    (hb : attributeBase o "ends" X.env (eval o X.env) = eval o X.env := by rfl) (hsw : swapsWith value (some (.Subscript (.Attribute o "ends" apos) (.Call (.Name x pn) [e] [] cpos) p)) pos.line X.env = pure false := by rfl)
    (hs : starEach [e] X.env = [(false, eval e X.env)] := by rfl) (hpl : (backTo cpos (starEach [] X.env)).any (·.1) = false := by rfl) :
    PS X (.Assign [.Subscript (.Attribute o "ends" apos) (.Call (.Name x pn) [e] [] cpos) p] value pos) (tS ⟨X.K, cls, a0⟩ E (pputM g i j)) :=
  PS_weak (ps_dput (by have := hr.units; omega) (pe_fld hv0 hb) (pe_pure1 C hr hg hx hv hdb hs hpl) he hsw) fun D σ H ⟨Γ, F, own, s, q⟩ => by
    unfold pputM at q
    split at q
    · rename_i sl hs0
      split at q
      · rename_i pin ds kds d di hpo hj hi
        split at q
        · rename_i r As hgr
          split at q
          · rename_i key hkey
            split at q
            · rename_i hz
              rw [parOf_some hpo] at hs0
              obtain ⟨a, h0, hp, hbx⟩ := s.slot 0 _ hs0
              obtain ⟨dx, l, k, vs, kvs, h1, h2, h3, h4, h5, h6, h7, h8, h9, h10⟩ := par_inv hbx
              obtain ⟨v, hvj, _, rv⟩ := s.slot j _ hj
              obtain ⟨u, hvi, _, ru⟩ := s.slot i _ hi
              refine ⟨v, hvj, _, h0, a, _, dx, _, .ref k, rfl, h1, hA.cl, hA.no, rfl, u, hvi, spG_val s ru hgr fun y F' H' G ry => ?_⟩
              have s2 := s.grow G
              have hlen : kvs.length = kds.length := by
                have := congrArg List.length h5
                simpa using this
              rw [rep_key ry hkey]
              refine ⟨k, _, rfl, .k (G.hh _ _ h4) (by omega), ?_⟩
              have hown : own 0 k := (h10 k).mpr (.inr (.inr rfl))
              have w := s2.wr (H' := upd H' k (.dK (putK kvs key v))) (i := 0) (x := .box 2 pin (.tuple [.list ds, dicK (put kds key d)])) (o := own 0) (s2.lt hs0) (fun b u q n => by
                rw [upd_ne (fun e => n (by rw [e]; exact hown))]
                exact q) (fun b q => by
                by_cases e : b = k
                · rw [e, upd_same]; simp
                · rw [upd_ne e]; exact q) (s2.free 0) (fun b hb => by
                by_cases e : b = k
                · rw [e, upd_same]; simp
                · rw [upd_ne e]; exact s2.there 0 b hb) (fun b hb => .inl hb) ⟨a, h0, hp, .par (by rw [upd_ne (Ne.symm h8)]; exact G.hh _ _ h1) (by rw [upd_ne h9]; exact G.hh _ _ h2) (h3.mono G.ff) upd_same (put_keys h5 key v d) (put_rep h5 (h6.mono G.ff) key (rv.mono G.ff)) h7 h8 h9 h10⟩
              exact q _ F' _ _ w.1 ((G.step own).trans w.2)
            · exact q.elim
          · exact q.elim
        · exact q.elim
      · exact q.elim
    · exact q.elim
/-- a def's end: the pairing's two are frozen, the dict's object known -/
def pendM : Gam → RS := fun Γ => match Γ[(0 : Nat)]? with
  | some sl => match parOf sl with
    | some (pin, ds, kds) => .nx (Γ.set 0 (.cmp "Pairing" pin [("chains", .list ds), ("ends", dicF kds)]))
    | none => .stuck
  | none => .stuck
def tLockN : TS := fun D σ H => ∃ k kvs, H k = some (.dK kvs) ∧ ∀ ob, D.nx σ (upd H k (.frz ob (.dK kvs)))
theorem pss_lock : PSs X [] tLockN := ⟨fun pins s σ H D I ⟨k, kvs, h, q⟩ => by
  obtain ⟨ob, I'⟩ := I.lock h trivial
  exact pss_nil.run pins s σ _ D I' (q ob)⟩
theorem ss_pend : PSs X [] (tS M E pendM) := PSs_weak pss_lock fun D σ H ⟨Γ, F, own, s, q⟩ => by
  unfold pendM at q
  split at q
  · rename_i sl hs0
    split at q
    · rename_i pin ds kds hpo
      rw [parOf_some hpo] at hs0
      obtain ⟨a, h0, hp, hbx⟩ := s.slot 0 _ hs0
      obtain ⟨dx, l, k, vs, kvs, h1, h2, h3, h4, h5, h6, h7, h8, h9, h10⟩ := par_inv hbx
      refine ⟨k, kvs, h4, fun ob => ?_⟩
      have oa : own 0 a := (h10 a).mpr (.inl rfl)
      have ol : own 0 l := (h10 l).mpr (.inr (.inl rfl))
      have ok : own 0 k := (h10 k).mpr (.inr (.inr rfl))
      have fl := s.free 0 l ol
      have fk := s.free 0 k ok
      have fa := s.free 0 a oa
      -- the two are frozen
      let F' : Hp := upd (upd F l (.lst vs)) k (.frz ob (.dK kvs))
      have e1 : Ex F (upd F l (.lst vs)) := .new fl
      have e2 : Ex (upd F l (.lst vs)) F' := .new (by rw [upd_ne (Ne.symm h9)]; exact fk)
      have eF : Ex F F' := e1.trans e2
      have at_l : F' l = some (.lst vs) := by
        show upd _ k _ l = _
        rw [upd_ne h9, upd_same]
      have at_k : F' k = some (.frz ob (.dK kvs)) := upd_same
      have off : ∀ b, b ≠ l → b ≠ k → F' b = F b := fun b n1 n2 => by
        show upd _ k _ b = _
        rw [upd_ne n2, upd_ne n1]
      have fh' : Ex F' (upd H k (.frz ob (.dK kvs))) := fun b u hb => by
        by_cases q1 : b = k
        · subst q1
          rw [at_k] at hb
          rw [upd_same]
          exact hb
        · rw [upd_ne q1]
          by_cases q2 : b = l
          · subst q2
            rw [at_l] at hb
            rw [h2]
            exact hb
          · rw [off b q2 q1] at hb
            exact s.fh b u hb
      have nother : ∀ j b, j ≠ 0 → own j b → b ≠ l ∧ b ≠ k ∧ b ≠ a := fun j b hj hb => ⟨fun e => hj (s.disj j 0 b hb (by rw [e]; exact ol)), fun e => hj (s.disj j 0 b hb (by rw [e]; exact ok)), fun e => hj (s.disj j 0 b hb (by rw [e]; exact oa))⟩
      have S' : StR M (Γ.set 0 (.cmp "Pairing" pin [("chains", .list ds), ("ends", dicF kds)])) σ F' (upd H k (.frz ob (.dK kvs))) (putO own 0 fun b => b = a) := by
        refine ⟨by simp [s.len], fh', fun j y hj => ?_, fun j hj b => ?_, fun j b hb => ?_, fun j b hb => ?_, fun j i b hj hi => ?_⟩
        · by_cases e : j = 0
          · subst e
            rw [List.getElem?_set_self (s.lt hs0)] at hj
            cases hj
            rw [putO_same]
            refine ⟨a, h0, hp, dx, [("chains", .ref l), ("ends", .ref k)], by rw [upd_ne (Ne.symm h8)]; exact h1, fun b => Iff.rfl, rfl, .cons (.lst at_l (h3.mono eF)) (.cons (.dcF at_k h5 (h6.mono eF)) .nil)⟩
          · rw [List.getElem?_set_ne (Ne.symm e)] at hj
            rw [putO_ne e]
            exact (s.slot j y hj).mono eF fun b u hb hu => by
              rw [upd_ne (nother j b e hb).2.1]
              exact hu
        · rw [List.length_set] at hj
          have hl := s.lt hs0
          rw [putO_ne (by omega)]
          exact s.out j hj b
        · by_cases e : j = 0
          · subst e
            rw [putO_same] at hb
            rw [hb, off a (Ne.symm h7) (Ne.symm h8)]
            exact fa
          · rw [putO_ne e] at hb
            obtain ⟨n1, n2, _⟩ := nother j b e hb
            rw [off b n1 n2]
            exact s.free j b hb
        · by_cases e : j = 0
          · subst e
            rw [putO_same] at hb
            rw [hb, upd_ne (Ne.symm h8), h1]
            simp
          · rw [putO_ne e] at hb
            rw [upd_ne (nother j b e hb).2.1]
            exact s.there j b hb
        · by_cases e : j = 0
          · by_cases e' : i = 0
            · rw [e, e']
            · subst e
              rw [putO_same] at hj
              rw [putO_ne e'] at hi
              exact absurd hj (nother i b e' hi).2.2
          · by_cases e' : i = 0
            · subst e'
              rw [putO_same] at hi
              rw [putO_ne e] at hj
              exact absurd hi (nother j b e hj).2.2
            · rw [putO_ne e] at hj
              rw [putO_ne e'] at hi
              exact s.disj j i b hj hi
      refine q σ F' _ _ S' ⟨eF, fun b u hb n => ?_, fun b n1 n2 n3 => ?_, fun j b hb => ?_, fun b hb => ?_⟩
      · rw [upd_ne (fun e => n 0 (by rw [e]; exact ok))]
        exact hb
      · rw [off b (fun e => n3 0 (by rw [e]; exact ol)) (fun e => n3 0 (by rw [e]; exact ok))]
        exact n1
      · by_cases e : j = 0
        · subst e
          rw [putO_same] at hb
          exact .inl ⟨0, by rw [hb]; exact oa⟩
        · rw [putO_ne e] at hb
          exact .inl ⟨j, hb⟩
      · by_cases e : b = k
        · rw [e, upd_same]; simp
        · rw [upd_ne e]; exact hb
    · exact q.elim
  · exact q.elim
end
end DL
end

section
set_option Elab.async false
set_option linter.all false
set_option maxRecDepth 100000
set_option autoImplicit false
set_option maxHeartbeats 1000000
/-! DL28: list(d.values()). -/
namespace DL
open PySem PySem.Spec PyProof.Rows L2
def rValsL : V → Hp → VK → Prop := fun x H Q => ∃ (d : Addr) (kvs : List (Key × V)), x = .ref d ∧ Rd H d (.dK kvs) ∧ ∀ p, H p = none → Q (.ref p) (upd H p (.lst (kvs.map (·.2))))
theorem kv_vals : ∀ {kvs : List (Key × V)} {vs : List (Key × Value)}, KV kvs vs → Vals (kvs.map (·.2)) (vs.map (·.2))
  | _, _, .nil => .nil
  | _, _, .cons h t => .cons h.2 (kv_vals t)
section
variable {X : Cx} {e : Expr} {te : TE} {p apos cpos pos : Pos}
theorem pe_listValues (hc : X.calm = true) (he : PE X e te) (hg : Gl X "list") (hm : X.mg "list" = none) (hv : bootBuiltins "list" = some (.type "list")) (hbase : attributeBase e "values" X.env (eval e X.env) = eval e X.env := by rfl) (hline : (apos.endLine == cpos.line) = true := by rfl)
    (hs : starEach [.Call (.Attribute e "values" apos) [] [] cpos] X.env = (false, eval (.Call (.Attribute e "values" apos) [] [] cpos) X.env) :: starEach [] X.env := by rfl) :
    PE X (.Call (.Name "list" p) [.Call (.Attribute e "values" apos) [] [] cpos] [] pos) (fun σ H Q => te σ H fun x H1 => rValsL x H1 Q) := by
  refine ⟨fun pins s σ H Q I hq => ?_⟩
  refine wpAny_Call_Name_kw (ld_blt I hg hm hv ?_)
  refine PyProof.Rows.callWith_type1 ?_ hs rfl
  rw [hs]
  show wpAny _ _ (spliced ((false, eval (.Call (.Attribute e "values" apos) [] [] cpos) X.env) :: backTo pos (starEach [] X.env))) _ _ s
  refine Calls.spliced_cons ?_
  refine wpAny_Call_method (T := "dict") (id := "dict.values") hbase rfl hline F.plainAttrs_dict F.slot_dict_values F.type_dict_values (thn (he.run pins s σ H _ I hq) fun u s1 ⟨x, H1, I1, rx, d, kvs, ex, hd, q⟩ => ?_)
  subst ex
  obtain rfl : u = Value.ref d := rx
  obtain ⟨hz, hs0, vs, kv, hdo⟩ := hd.ok I1.hok
  obtain ⟨ep, hat⟩ := hdo.dictAt
  have lk : kvs.length = vs.length := Paired.length kv
  refine ⟨hdo.typeIs, hdo.mapOf.noDict, ?_⟩
  show wpAny _ _ (callWith cpos (.builtin "dict.values") [.ref d] [] []) _ X.xe s1
  refine method_meetsIn F.slot_dict_values F.entry_dict_values rfl (PySem.evalArgs_none ⟨rfl, hdo.typeIs, F.args_dict_values_1 _, _, meets_dict_values (mixKind X.prog X.w) d hs0, ⟨vs, hdo⟩, ?_⟩)
  refine Calls.spliced_nil ?_
  refine PySem.W.kdl_call (PySem.W.kdl_values (knd := mixKind X.prog X.w) (kvs := vs) (ep := ep) (d := d) (r := s1.heap.objs.size)) (I1.ok.hd hc) ⟨⟨_, Heap.get?_push_size _ rfl, rfl, rfl⟩, hat.push _⟩ (by omega) fun h' tk acc c hk hS hacc => ?_
  have hk' : ∀ b o, s1.heap.get? b = some o → h'.get? b = some o := fun b o y => hk b o (Heap.get?_push_of_some _ y)
  have eacc : acc.toList = vs.map (·.2) := PySem.W.kdl_vals_eq acc.toList (by rw [Array.length_toList]; exact hacc.1) fun j v y => hacc.2 j v (by rw [← Array.getElem?_toList]; exact y)
  have hS1 : s1.heap.objs.size ≤ (s1.heap.push { cls := .type "dict_values", data := .fields #[.ref d] }).objs.size := by rw [Heap.size_push]; exact Nat.le_succ _
  refine ⟨.ref _, _, I1.laid (t' := tk) (a := (s1.heap.push { cls := .type "dict_values", data := .fields #[.ref d] }).objs.size) (o := .lst (kvs.map (·.2))) hk' hS1 ⟨by rw [List.length_map]; exact hz, acc.toList, c, by rw [eacc]; exact kv_vals kv, ?_⟩, rfl, q _ (I1.hok.fresh hS1)⟩
  rw [Array.toArray_toList]
  exact hS
end
section
variable {X : Cx} {M : Pm} {E : XK} {e : Expr} {m : Gam → R Val} {p apos cpos pos : Pos}
def lvalsM (m : Gam → R Val) : Gam → R Val := fun Γ => (rd m Γ).bind fun v Γ1 => match viewK Γ1 v with
  | some kds => .ok (.n (.ol (kds.map (·.2)))) Γ1
  | none => .stuck
theorem e_listValues (hc : X.calm = true) (he : PE X e (tE M E m)) (hg : Gl X "list") (hm : X.mg "list" = none) (hbase : attributeBase e "values" X.env (eval e X.env) = eval e X.env := by rfl) (hline : (apos.endLine == cpos.line) = true := by rfl)
    (hs : starEach [.Call (.Attribute e "values" apos) [] [] cpos] X.env = (false, eval (.Call (.Attribute e "values" apos) [] [] cpos) X.env) :: starEach [] X.env := by rfl) :
    PE X (.Call (.Name "list" p) [.Call (.Attribute e "values" apos) [] [] cpos] [] pos) (tE M E (lvalsM m)) := PE_weak (pe_listValues hc (pe_rd he) hg hm PyProof.Rows.boot_list hbase hline hs) fun σ H Q q => by
  obtain ⟨Γ, F, own, st, p⟩ := q
  refine ⟨Γ, F, own, st, post_bind p fun F1 H1 own1 Γ1 x v _ st1 s1 r1 p1 => ?_⟩
  split at p1
  · rename_i kds hk
    obtain ⟨l, kvs, rfl, h1, h2, h3⟩ := view_K st1 r1 hk
    exact ⟨l, kvs, rfl, h1, fun q hq => post_newL st1 s1 p1 hq h3⟩
  · exact p1.elim
end
end DL
end

section
set_option Elab.async false
set_option linter.all false
set_option maxRecDepth 100000
set_option autoImplicit false
set_option maxHeartbeats 1000000
/-! DL29: the dict of a law's draws. -/
namespace DL
open PySem PySem.Spec PyProof.Rows L2
theorem intsOf_eq : ∀ {ds : List D} {ns : List Int}, intsOf ds = some ns → ds = ns.map PyData.int
  | [], _, h => by
    cases h
    rfl
  | .int i :: r, ns, h => by
    simp only [intsOf] at h
    split at h
    · rename_i ns' e
      cases h
      rw [intsOf_eq e]
      rfl
    · cases h
  | .none :: _, _, h => by cases h
  | .bool _ :: _, _, h => by cases h
  | .str _ :: _, _, h => by cases h
  | .list _ :: _, _, h => by cases h
  | .tuple _ :: _, _, h => by cases h
  | .dict _ :: _, _, h => by cases h
@[simp] theorem intsOf_map : ∀ ns : List Int, intsOf (ns.map PyData.int) = some ns
  | [] => rfl
  | n :: ns => by simp [intsOf, intsOf_map ns]
def rngOf : Slot → Option (Option Addr × List Int × List Int × Int)
  | .box 0 pin (.tuple [.list cs, .list ls, .int n]) => match intsOf cs, intsOf ls with
    | some c, some l => some (pin, c, l, n)
    | _, _ => none
  | _ => none
theorem rngOf_some {sl : Slot} {pin : Option Addr} {cs ls : List Int} {n : Int} (h : rngOf sl = some (pin, cs, ls, n)) : sl = .box 0 pin (rngD cs ls n) := by
  unfold rngOf at h
  split at h
  · split at h
    · rename_i c l h1 h2
      cases h
      rw [intsOf_eq h1, intsOf_eq h2]
      rfl
    · cases h
  · cases h
@[simp] theorem rngOf_rngD (pin : Option Addr) (cs ls : List Int) (n : Int) : rngOf (.box 0 pin (rngD cs ls n)) = some (pin, cs, ls, n) := by
  show (match intsOf (cs.map PyData.int), intsOf (ls.map PyData.int) with
    | some c, some l => some (pin, c, l, n)
    | _, _ => none) = _
  rw [intsOf_map, intsOf_map]
theorem map_int_inj {a b : List Int} (h : a.map PyData.int = b.map PyData.int) : a = b := by
  have := congrArg intsOf h
  rw [intsOf_map, intsOf_map] at this
  exact Option.some.inj this
theorem rng_inv {cls : Str → Addr} {F H : Hp} {o : Addr → Prop} {a : Addr} {cells left : List Int} {n : Int} (h : BoxR cls 0 F H o a (rngD cells left n)) :
    ∃ c l, H a = some (.dK [(.inr "cells", .ref c), (.inr "left", .ref l), (.inr "at", .int n)]) ∧ F c = some (.lst (cells.map V.int)) ∧ H l = some (.lst (left.map V.int)) ∧ l ≠ a ∧ (∀ b, o b ↔ b = a ∨ b = l) := by
  generalize hn : (0 : Nat) = k at h
  generalize hd : rngD cells left n = dd at h
  cases h with
  | bas => cases hn
  | par => cases hn
  | rng h1 h2 h3 h4 h5 =>
    rename_i c l cells' left' n'
    simp only [rngD, PyData.tuple.injEq, List.cons.injEq, PyData.list.injEq, PyData.int.injEq, and_true] at hd
    obtain ⟨e1, e2, e3⟩ := hd
    rw [map_int_inj e1, map_int_inj e2, e3]
    exact ⟨c, l, h1, h2, h3, h4, h5⟩
section
variable {X : Cx} {M : Pm} {E : XK} {e o : Expr} {es : List Expr} {me : Gam → R Val} {p pos apos p1 p2 p3 p4 : Pos} {j1 j2} {op : CmpOp}
theorem noSl_str {x : Str} : NoSl (.Constant (.str x) j1 p1) := by intro _ _; rfl
abbrev rngLook (c l : Addr) (n : Int) : List (Key × V) := [(.inr "cells", .ref c), (.inr "left", .ref l), (.inr "at", .int n)]
theorem look_left (c l : Addr) (n : Int) : valV (rngLook c l n) (.inr "left") = some (.ref l) := rfl
theorem look_cells (c l : Addr) (n : Int) : valV (rngLook c l n) (.inr "cells") = some (.ref c) := rfl
theorem look_at (c l : Addr) (n : Int) : valV (rngLook c l n) (.inr "at") = some (.int n) := rfl
theorem put_left (c l l' : Addr) (n : Int) : putK (rngLook c l n) (.inr "left") (.ref l') = rngLook c l' n := rfl
theorem put_at (c l : Addr) (n n' : Int) : putK (rngLook c l n) (.inr "at") (.int n') = rngLook c l n' := rfl
/-- m["at"], m["cells"] -/
def ratM : Gam → R Val := fun Γ => match Γ[(0 : Nat)]? with
  | some sl => match rngOf sl with
    | some (_, _, _, n) => .ok (.f (.int n)) Γ
    | none => .stuck
  | none => .stuck
def rcellsM : Gam → R Val := fun Γ => match Γ[(0 : Nat)]? with
  | some sl => match rngOf sl with
    | some (_, cs, _, _) => .ok (.f (.list (cs.map .int))) Γ
    | none => .stuck
  | none => .stuck
theorem e_rat (hu : X.A.units + 64 < cLine) (hv : PE X o (tVar 0)) : PE X (.Subscript o (.Constant (.str "at") j1 p1) pos) (tE M E ratM) := PE_weak (pe_dget (by omega) hv pe_str noSl_str) fun σ H Q q => by
  obtain ⟨Γ, F, own, s, p⟩ := q
  unfold ratM at p
  split at p
  · rename_i sl hs
    split at p
    · rename_i pin cs ls n hr
      rw [rngOf_some hr] at hs
      obtain ⟨a, h0, _, hb⟩ := s.slot 0 _ hs
      obtain ⟨c, l, h1, h2, h3, h4, h5⟩ := rng_inv hb
      refine ⟨_, h0, a, .int n, rfl, ?_, p _ F H own s (.refl _ _ _) (.int n)⟩
      have := DGet.k (k := .inr "at") h1
      rw [look_at] at this
      exact this
    · exact p.elim
  · exact p.elim
theorem e_rcells (hu : X.A.units + 64 < cLine) (hv : PE X o (tVar 0)) : PE X (.Subscript o (.Constant (.str "cells") j1 p1) pos) (tE M E rcellsM) := PE_weak (pe_dget (by omega) hv pe_str noSl_str) fun σ H Q q => by
  obtain ⟨Γ, F, own, s, p⟩ := q
  unfold rcellsM at p
  split at p
  · rename_i sl hs
    split at p
    · rename_i pin cs ls n hr
      rw [rngOf_some hr] at hs
      obtain ⟨a, h0, _, hb⟩ := s.slot 0 _ hs
      obtain ⟨c, l, h1, h2, h3, h4, h5⟩ := rng_inv hb
      refine ⟨_, h0, a, .ref c, rfl, ?_, p _ F H own s (.refl _ _ _) (.lst h2 (repAll_ints cs))⟩
      have := DGet.k (k := .inr "cells") h1
      rw [look_cells] at this
      exact this
    · exact p.elim
  · exact p.elim
/-- m["left"][0] -/
def rleft0M : Gam → R Val := fun Γ => match Γ[(0 : Nat)]? with
  | some sl => match rngOf sl with
    | some (_, _, n :: _, _) => .ok (.f (.int n)) Γ
    | _ => .stuck
  | none => .stuck
theorem e_rleft0 (hu : X.A.units + 64 < cLine) (hv : PE X o (tVar 0)) : PE X (.Subscript (.Subscript o (.Constant (.str "left") j1 p1) p2) (.Constant (.int 0) j2 p3) pos) (tE M E rleft0M) :=
  PE_weak (pe_ix ix_list (pe_dget (by omega) hv pe_str noSl_str) pe_int (by intro _ _; rfl)) fun σ H Q q => by
  obtain ⟨Γ, F, own, s, p⟩ := q
  unfold rleft0M at p
  split at p
  · rename_i sl hs
    split at p
    · rename_i pin cs m ls n hr
      rw [rngOf_some hr] at hs
      obtain ⟨a, h0, _, hb⟩ := s.slot 0 _ hs
      obtain ⟨c, l, h1, h2, h3, h4, h5⟩ := rng_inv hb
      refine ⟨_, h0, a, .ref l, rfl, ?_, l, _, 0, .int m, rfl, rfl, .of h3, ?_, p _ F H own s (.refl _ _ _) (.int m)⟩
      · have := DGet.k (k := .inr "left") h1
        rw [look_left] at this
        exact this
      · show atI (V.int m :: ls.map V.int) ((0 : Nat) : Int) = _
        rw [atI_nat] <;> simp
    · exact p.elim
  · exact p.elim
/-- m["left"] != [] -/
def rneM : Gam → R Bool := fun Γ => match Γ[(0 : Nat)]? with
  | some sl => match rngOf sl with
    | some (_, _, ls, _) => .ok (!ls.isEmpty) Γ
    | none => .stuck
  | none => .stuck
theorem dpAll_ints {K : PySem.W.Frag} {H : Hp} : ∀ ns : List Int, DpAll K H (ns.map V.int) (ns.map PyData.int)
  | [] => .nil
  | n :: ns => .cons (.int n) (dpAll_ints ns)
theorem plain_ints : ∀ ns : List Int, PyData.plainAll (ns.map PyData.int) = true
  | [] => rfl
  | n :: ns => by simp [PyData.plainAll, PyData.plain, plain_ints ns]
theorem t_rne (hu : X.A.units + 64 < cLine) (hv : PE X o (tVar 0)) (hm : behindInMarks .NotEq (.List [] p3) = false := by rfl) : PT X (.Compare (.Subscript o (.Constant (.str "left") j1 p1) p2) [.NotEq] [.List [] p3] pos) (tT M E rneM) :=
  PT_weak (pt_cmpR (op_neP hu) (pe_dget (by omega) hv pe_str noSl_str) (pe_lst pa_nil) hm) fun σ H Q q => by
  obtain ⟨Γ, F, own, s, p⟩ := q
  unfold rneM at p
  split at p
  · rename_i sl hs
    split at p
    · rename_i pin cs ls n hr
      rw [rngOf_some hr] at hs
      obtain ⟨a, h0, _, hb⟩ := s.slot 0 _ hs
      obtain ⟨c, l, h1, h2, h3, h4, h5⟩ := rng_inv hb
      refine ⟨_, h0, a, .ref l, rfl, ?_, by decide, fun q hq => ?_⟩
      · have := DGet.k (k := .inr "left") h1
        rw [look_left] at this
        exact this
      · have hl : upd H q (.lst []) l = some (.lst (ls.map V.int)) := by
          rw [upd_ne (ne_of_none h3 hq)]
          exact h3
        refine ⟨.list (ls.map .int), .list [], .lst (.of hl) (dpAll_ints ls), .lst (.of upd_same) .nil, ?_, !ls.isEmpty, ?_, ?_⟩
        · simp only [okE, PyData.plain, plain_ints, Bool.and_eq_true, Bool.or_eq_true, decide_eq_true_eq]
          exact ⟨⟨trivial, rfl⟩, .inr (by decide)⟩
        · cases ls with
          | nil => rfl
          | cons m ls => rfl
        · have G : Grow F H F (upd H q (.lst [])) := .lay s.fh hq
          exact p _ F _ own (s.grow G) (G.step own) rfl
    · exact p.elim
  · exact p.elim
/-- m["left"] = m["left"][1:] -/
def rcutM : Gam → RS := fun Γ => match Γ[(0 : Nat)]? with
  | some sl => match rngOf sl with
    | some (pin, cs, _ :: ls, n) => .nx (Γ.set 0 (.box 0 pin (rngD cs ls n)))
    | _ => .stuck
  | none => .stuck
theorem cutV_tail (v : V) (vs : List V) : cutV (v :: vs) (some 1) none = vs := by
  have e : HT.sIx (v :: vs).length 0 (some 1) = 1 := by
    have := HT.sIx_nat (v :: vs).length 0 1
    rw [show ((1 : Nat) : Int) = 1 from rfl] at this
    rw [this]
    simp
  unfold cutV
  rw [e, HT.sIx_none]
  simp
theorem s_rcut {o2 : Expr} {j3} {p5 p6 p7 : Pos} (hu : X.A.units + 64 < cLine) (hv : PE X o (tVar 0)) (hv2 : PE X o2 (tVar 0))
    (hsw : swapsWith (.Subscript (.Subscript o2 (.Constant (.str "left") j2 p3) p4) (.Slice (some (.Constant (.int 1) j3 p5)) none none p6) p7) (some (.Subscript o (.Constant (.str "left") j1 p1) p2)) pos.line X.env = pure false := by rfl) :
    PS X (.Assign [.Subscript o (.Constant (.str "left") j1 p1) p2] (.Subscript (.Subscript o2 (.Constant (.str "left") j2 p3) p4) (.Slice (some (.Constant (.int 1) j3 p5)) none none p6) p7) pos) (tS M E rcutM) :=
  PS_weak (ps_dput (by omega) hv pe_str (pe_slice sl_list (pe_dget (by omega) hv2 pe_str noSl_str) (po_some pe_int) po_none) hsw) fun D σ H ⟨Γ, F, own, s, q⟩ => by
    unfold rcutM at q
    split at q
    · rename_i sl hs
      split at q
      · rename_i pin cs m ls n hr
        rw [rngOf_some hr] at hs
        obtain ⟨a, h0, hp, hb⟩ := s.slot 0 _ hs
        obtain ⟨c, l, h1, h2, h3, h4, h5⟩ := rng_inv hb
        refine ⟨_, h0, a, .ref l, rfl, ?_, 1, rfl, l, _, rfl, .of h3, fun q' hq => ?_⟩
        · have := DGet.k (k := .inr "left") h1
          rw [look_left] at this
          exact this
        · have e1 : cutV ((m :: ls).map V.int) (some 1) none = ls.map V.int := cutV_tail _ _
          rw [e1]
          have hqa : a ≠ q' := ne_of_none h1 hq
          have h1' : upd H q' (.lst (ls.map V.int)) a = some (.dK (rngLook c l n)) := by rw [upd_ne hqa]; exact h1
          refine ⟨_, h0, a, _, rfl, .k (k := .inr "left") h1' (by show 3 < sizeLine; decide), ?_⟩
          rw [put_left]
          have hown : own 0 a := (h5 a).mpr (.inl rfl)
          have w := s.wr (H' := upd (upd H q' (.lst (ls.map V.int))) a (.dK (rngLook c q' n))) (i := 0) (x := .box 0 pin (rngD cs ls n)) (o := fun b => b = a ∨ b = q') (s.lt hs) (fun b u q n => by
            rw [upd_ne (fun e => n (by rw [e]; exact hown)), upd_ne (ne_of_none q hq)]
            exact q) (fun b q => by
            by_cases e : b = a
            · rw [e, upd_same]; simp
            · rw [upd_ne e]
              by_cases e' : b = q'
              · rw [e', upd_same]; simp
              · rw [upd_ne e']; exact q) (fun b hb => by
            rcases hb with e | e
            · rw [e]; exact s.free 0 a hown
            · rw [e]; exact s.fh.back hq) (fun b hb => by
            rcases hb with e | e
            · rw [e, upd_same]; simp
            · rw [e, upd_ne (Ne.symm hqa), upd_same]; simp) (fun b hb => by
            rcases hb with e | e
            · rw [e]; exact .inl hown
            · rw [e]; exact .inr hq) ⟨a, h0, hp, .rng upd_same h2 (by rw [upd_ne (Ne.symm hqa), upd_same]) (Ne.symm hqa) (fun b => Iff.rfl)⟩
          exact q _ F _ _ w.1 w.2
      · exact q.elim
    · exact q.elim
/-- m["left"][0] = e -/
def rputM (me : Gam → R Val) : Gam → RS := fun Γ => stm (fzL me Γ) fun d Γ1 => match d with
  | .int v => match Γ1[(0 : Nat)]? with
    | some sl => match rngOf sl with
      | some (pin, cs, _ :: ls, n) => .nx (Γ1.set 0 (.box 0 pin (rngD cs (v :: ls) n)))
      | _ => .stuck
    | none => .stuck
  | _ => .stuck
theorem s_rput {value : Expr} (hu : X.A.units + 64 < cLine) (hv : PE X o (tVar 0)) (he : PE X value (tE M E me))
    (hs : swapsWithSole [.Subscript (.Subscript o (.Constant (.str "left") j1 p1) p2) (.Constant (.int 0) j2 p3) p4] value pos.line X.env = pure false := by rfl)
    (hw : swappedStores [.Subscript (.Subscript o (.Constant (.str "left") j1 p1) p2) (.Constant (.int 0) j2 p3) p4] value X.env = pure none := by rfl)
    (h1 : (assignEach [.Subscript (.Subscript o (.Constant (.str "left") j1 p1) p2) (.Constant (.int 0) j2 p3) p4] X.env).map (·.2) = [assign (.Subscript (.Subscript o (.Constant (.str "left") j1 p1) p2) (.Constant (.int 0) j2 p3) p4) X.env] := by rfl) :
    PS X (.Assign [.Subscript (.Subscript o (.Constant (.str "left") j1 p1) p2) (.Constant (.int 0) j2 p3) p4] value pos) (tS M E (rputM me)) :=
  PS_weak (ps_asg (pe_fz he) (pg_sub (pe_dget (by omega) hv pe_str noSl_str) pe_int set_list) hs hw h1) fun D σ H ⟨Γ, F, own, s, q⟩ =>
  ⟨Γ, F, own, s, post_stm q fun F1 H1 own1 Γ1 z d _ s1 st1 rz q => by
    split at q
    · rename_i v _
      split at q
      · rename_i sl hs
        split at q
        · rename_i pin cs m ls n hr
          rw [rngOf_some hr] at hs
          obtain ⟨a, h0, hp, hb⟩ := s1.slot 0 _ hs
          obtain ⟨c, l, h1, h2, h3, h4, h5⟩ := rng_inv hb
          cases rz
          refine ⟨_, h0, a, .ref l, rfl, ?_, l, _, 0, 0, rfl, rfl, h3, by simp [ixN], ?_⟩
          · have := DGet.k (k := .inr "left") h1
            rw [look_left] at this
            exact this
          · have hown : own1 0 l := (h5 l).mpr (.inr rfl)
            have w := s1.wr (H' := upd H1 l (.lst (((m :: ls).map V.int).set 0 (.int v)))) (i := 0) (x := .box 0 pin (rngD cs (v :: ls) n)) (o := own1 0) (s1.lt hs) (fun b u q n => by
              rw [upd_ne (fun e => n (by rw [e]; exact hown))]
              exact q) (fun b q => by
              by_cases e : b = l
              · rw [e, upd_same]; simp
              · rw [upd_ne e]; exact q) (s1.free 0) (fun b hb => by
              by_cases e : b = l
              · rw [e, upd_same]; simp
              · rw [upd_ne e]; exact s1.there 0 b hb) (fun b hb => .inl hb) ⟨a, h0, hp, .rng (by rw [upd_ne (Ne.symm h4)]; exact h1) h2 upd_same h4 h5⟩
            exact q _ F1 _ _ w.1 (st1.trans w.2)
        · exact q.elim
      · exact q.elim
    · exact q.elim⟩
/-- m["at"] = x -/
def rsetatM (j : Nat) : Gam → RS := fun Γ => match Γ[(0 : Nat)]? with
  | some sl => match rngOf sl, Γ[j]? with
    | some (pin, cs, ls, _), some (.one (.fz (.int v))) => .nx (Γ.set 0 (.box 0 pin (rngD cs ls v)))
    | _, _ => .stuck
  | none => .stuck
theorem s_rsetat {j : Nat} {value : Expr} (hu : X.A.units + 64 < cLine) (hv : PE X o (tVar 0)) (he : PE X value (tVar j))
    (hsw : swapsWith value (some (.Subscript o (.Constant (.str "at") j1 p1) p2)) pos.line X.env = pure false := by rfl) :
    PS X (.Assign [.Subscript o (.Constant (.str "at") j1 p1) p2] value pos) (tS M E (rsetatM j)) :=
  PS_weak (ps_dput (by omega) hv pe_str he hsw) fun D σ H ⟨Γ, F, own, s, q⟩ => by
    unfold rsetatM at q
    split at q
    · rename_i sl hs
      split at q
      · rename_i pin cs ls n v hr hj
        rw [rngOf_some hr] at hs
        obtain ⟨a, h0, hp, hb⟩ := s.slot 0 _ hs
        obtain ⟨c, l, h1, h2, h3, h4, h5⟩ := rng_inv hb
        obtain ⟨w0, hw0, _, rw0⟩ := s.slot j _ hj
        cases rw0
        refine ⟨_, hw0, _, h0, a, _, rfl, .k (k := .inr "at") h1 (by show 3 < sizeLine; decide), ?_⟩
        rw [put_at]
        have hown : own 0 a := (h5 a).mpr (.inl rfl)
        have w := s.wr (H' := upd H a (.dK (rngLook c l v))) (i := 0) (x := .box 0 pin (rngD cs ls v)) (o := own 0) (s.lt hs) (fun b u q n => by
          rw [upd_ne (fun e => n (by rw [e]; exact hown))]
          exact q) (fun b q => by
          by_cases e : b = a
          · rw [e, upd_same]; simp
          · rw [upd_ne e]; exact q) (s.free 0) (fun b hb => by
          by_cases e : b = a
          · rw [e, upd_same]; simp
          · rw [upd_ne e]; exact s.there 0 b hb) (fun b hb => .inl hb) ⟨a, h0, hp, .rng upd_same h2 (by rw [upd_ne h4]; exact h3) h4 h5⟩
        exact q _ F _ _ w.1 w.2
      · exact q.elim
    · exact q.elim
end
end DL
end

section
set_option Elab.async false
set_option linter.all false
set_option maxRecDepth 100000
set_option autoImplicit false
set_option maxHeartbeats 1000000
/-! DL30: the draws' dict made; calls with the script. -/
namespace DL
open PySem PySem.Spec PyProof.Rows L2
section
variable {X : Cx} {M : Pm} {E : XK} {e e2 : Expr} {m1 m2 : Gam → R Val} {p pos p1 p2 p3 p4 : Pos} {j1 j2 j3 j4}
def rnewM (m1 m2 : Gam → R Val) : Gam → R Val := fun Γ => (fzL m1 Γ).bind fun d1 Γ1 => (m2 Γ1).bind fun v2 Γ2 => match d1, v2 with
  | .list cs, .n (.ol ls) => match intsOf cs, intsOf ls with
    | some c, some l => .ok (.nb 0 (rngD c l 0)) Γ2
    | _, _ => .stuck
  | _, _ => .stuck
theorem e_rnew (he : PE X e (tE M E m1)) (he2 : PE X e2 (tE M E m2)) :
    PE X (.Dict [some (.Constant (.str "cells") j1 p1), some (.Constant (.str "left") j2 p2), some (.Constant (.str "at") j3 p3)] [e, e2, .Constant (.int 0) j4 p4] pos) (tE M E (rnewM m1 m2)) :=
  PE_weak (pe_disp (pps_cons pe_str (pe_fz he) (pps_cons pe_str he2 (pps_cons pe_str pe_int pps_nil))) rfl rfl (by simp) (by show 3 ≤ 15; decide)) fun σ H Q q => by
  obtain ⟨Γ, F, own, s, q0⟩ := q
  intro p hp
  have G : Grow F H F (upd H p (.dK [])) := .lay s.fh hp
  have sp := s.grow G
  have stp := G.step own
  have q := q0.mono (back_V M) stp
  refine ⟨Γ, F, own, sp, post_bind q fun F1 H1 own1 Γ1 x1 d1 eq1 st1 s1 r1 q1 => ⟨Γ1, F1, own1, st1, post_bind (q1.mono (back_V M) s1) fun F2 H2 own2 Γ2 x2 v2 eq2 st2 s2 r2 _ => ?_⟩⟩
  have q2 := q0
  unfold rnewM at q2
  rw [eq1] at q2
  simp only [R.bind_ok] at q2
  rw [eq2] at q2
  simp only [R.bind_ok] at q2
  split at q2
  · rename_i cs ls
    split at q2
    · rename_i c l hc hl
      have s12 := s1.trans s2
      have nown : ∀ i, ¬ own i p := fun i hi => s.there i p hi hp
      have hp2 : H2 p = some (.dK []) := s12.hh p _ upd_same nown
      have fp2 : F2 p = none := s12.nf p (s.fh.back hp) (by rw [upd_same]; simp) nown
      have nown2 : ∀ i, ¬ own2 i p := fun i hi => by
        rcases s12.no i p hi with ⟨j, hj⟩ | z
        · exact nown j hj
        · rw [upd_same] at z
          cases z
      obtain ⟨cA, vs, rfl, hcA, rc⟩ := Rep.invL (Rep.mono s2.ff r1)
      obtain ⟨o, ⟨lA, ws, rfl, ho, hlA, rl⟩, nw⟩ := r2
      have ec := intsOf_ok rc hc
      have el := intsOf_ok rl hl
      subst ec el
      obtain ⟨n1, n2, n3, n4⟩ := nw lA ((ho lA).mpr rfl)
      have nlp : lA ≠ p := fun e => by
        rw [e, hp2] at hlA
        cases hlA
      have hH : H lA = none := by
        have h3 : upd H p (.dK []) lA = none := s1.none lA n4
        rw [upd_ne nlp] at h3
        exact h3
      refine ⟨hp2, rngLook cA lA 0, rfl, by show 3 ≤ 15; decide, ?_⟩
      have S3 := st2.updFree (o := .dK (mergeK [] (rngLook cA lA 0))) fp2 nown2
      have T3 : Step F H own F2 (upd H2 p (.dK (mergeK [] (rngLook cA lA 0)))) own2 := by
        have T := stp.trans s12
        exact T.updFree hp
      refine q2 _ F2 _ own2 S3 T3 ⟨p, fun b => b = p ∨ b = lA, rfl, .rng (by rw [upd_same]; rfl) hcA (by rw [upd_ne nlp]; exact hlA) nlp (fun b => Iff.rfl), fun b hb => ?_⟩
      rcases hb with e | e
      · rw [e]
        exact ⟨fp2, by rw [upd_same]; simp, nown2, hp⟩
      · rw [e]
        exact ⟨n1, by rw [upd_ne nlp]; exact n2, n3, hH⟩
    · exact q2.elim
  · exact q2.elim
end
/-! ### f(script) -/
def isVw : Slot → Bool
  | .vw _ => true
  | _ => false
def callW (g : List Slot → R Val) (i : Nat) : Gam → R Val := fun Γ => match Γ[i]? with
  | some (.vw ds) => match g [.vw ds] with
    | .ok v _ => if outV v = true then .ok v Γ else .stuck
    | _ => .stuck
  | _ => .stuck
section
variable {X : Cx} {E : XK} {e : Expr} {p pos : Pos} {i : Nat} {x : Str} {k : Nat} {g : List Slot → R Val} {cls : Str → Addr} {a0 : Option Addr}
theorem vw_state {K : PySem.W.Frag} {F H : Hp} {v : V} {o : Ow} {ds : List D} (fh : Ex F H) (h : SlotR ⟨K, cls, a0⟩ F H o (some (some v)) (.vw ds)) : StR ⟨K, cls, none⟩ [.vw ds] ([v].map some) F H (fun _ _ => False) := by
  refine ⟨rfl, fh, fun j y hj => ?_, fun _ _ _ q => q, fun _ _ q => q.elim, fun _ _ q => q.elim, fun _ _ _ q => q.elim⟩
  cases j with
  | zero =>
    cases hj
    obtain ⟨h1, l, vs, h2, h3, h4⟩ := h
    exact ⟨fun _ q => q, l, vs, h2, h3, h4⟩
  | succ j => simp at hj
theorem e_callW (C : FnC X.prog X.w X.K X.mg X.base cls x k g) (hr : Room k X.A) (hg : Gl X x) (hx : Passes (L2.CX X.prog X.w) X E) (hv : PE X e (tVar i)) (hdb : (x == ("__debug__" : Str)) = false := by decide)
    (hs : starEach [e] X.env = [(false, eval e X.env)] := by rfl) (hpl : (backTo pos (starEach [] X.env)).any (·.1) = false := by rfl) :
    PE X (.Call (.Name x p) [e] [] pos) (tE ⟨X.K, cls, a0⟩ E (callW g i)) := PE_weak (pe_pure1 C hr hg hx hv hdb hs hpl) fun σ H Q q => by
  obtain ⟨Γ, F, own, s, q⟩ := q
  unfold callW at q
  split at q
  · rename_i ds hi
    have h0 := s.slot i _ hi
    obtain ⟨h1, l, vs, h2, h3, h4⟩ := id h0
    refine ⟨.ref l, h2, ?_⟩
    rw [h2] at h0
    refine ⟨[.vw ds], F, _, vw_state s.fh h0, ?_⟩
    split at q
    · rename_i v As hg
      rw [hg]
      split at q
      · rename_i ho
        intro y F' H' own' s' st' rv
        have G : Grow F H F' H' := ⟨st'.ff, fun a o z => st'.hh a o z fun _ w => w, s'.fh, fun a n1 n2 => st'.nf a n1 n2 fun _ w => w⟩
        refine q y F' H' own (s.grow G) (G.step own) ?_
        have nw : ∀ {o : Ow}, New H F' H' own' o → New H F' H' own o := fun {o} n a ha => ⟨(n a ha).1, (n a ha).2.1, fun j hj => s.there j a hj (n a ha).2.2.2, (n a ha).2.2.2⟩
        cases v with
        | f d => exact rv
        | b j => cases ho
        | n f =>
          obtain ⟨o, k1, k2⟩ := rv
          refine ⟨o, ?_, nw k2⟩
          cases f <;> exact k1
        | nc c f =>
          obtain ⟨a, o, k0, k1, k2⟩ := rv
          exact ⟨a, o, k0, k1, nw k2⟩
        | nb n f =>
          obtain ⟨a, o, k0, k1, k2⟩ := rv
          exact ⟨a, o, k0, k1, nw k2⟩
      · exact q.elim
    · exact q.elim
  · exact q.elim
end
end DL
end

section
set_option Elab.async false
set_option linter.all false
set_option maxRecDepth 100000
set_option autoImplicit false
set_option maxHeartbeats 1000000
/-! DL31: the head's facts, one Bool more; the law's end. -/
namespace DL
open PySem PySem.Spec PyProof.Rows L2
abbrev AlE : Type := He.AlD × Bool
def obsE (n : Nat) (fa : List He.Fa) (fn : List He.DefD) (ex : PySem.W.Frag → Bool) (g : Addr → Option Obj) : AlE := (He.obsD fa fn (He.frG g (He.asD g n)), ex (He.frG g (He.asD g n)))
def hookE (n : Nat) (fa : List He.Fa) (fn : List He.DefD) (ex : PySem.W.Frag → Bool) : PySem.W.Hook where
  α := AlE
  obs := fun s => obsE n fa fn ex s.heap.get?
  val := fun _ => (He.valD fn, true)
  says := fun _ h => ∃ K : PySem.W.Frag, K.In h ∧ He.SaysD fa fn K ∧ ex K = true
  of := fun _ _ e => ⟨_, He.frG_in, congrArg (fun z : AlE => z.1) e, congrArg (fun z : AlE => z.2) e⟩
  keeps := fun _ _ _ ⟨K, hK, c⟩ k => ⟨K, PySem.W.Frag.In.keeps hK k, c⟩
theorem obsE_eq {n : Nat} {fa : List He.Fa} {fn : List He.DefD} {ex : PySem.W.Frag → Bool} {g : Addr → Option Obj} {s : Shared} (h : ∀ a, g a = s.heap.get? a) : obsE n fa fn ex g = (hookE n fa fn ex).obs s := by
  have e : g = s.heap.get? := funext h
  rw [e] <;> rfl
def oB {α : Type} [DecidableEq α] (a b : Option α) : Bool := decide (a = b)
def isB (K : PySem.W.Frag) (c : Str) : Bool := oB (PySem.W.findIn K (.ref (He.ga K c)) "__class__") (some (some (.builtin "object.__class__"))) && oB (PySem.W.specialIn K (.builtin "object.__class__") "__get__") (some (some (.builtin "getset_descriptor.__get__"))) &&
  oB (PySem.W.takesIn K (.builtin "object.__class__")) (some true) && oB (PySem.W.mroIn K (He.ga K c) (.type "object")) (some true) && oB (PySem.W.kitOne K (.ref (He.ga K c)) (.ref (He.ga K c))) (some true) &&
  (["NoneType", "bool", "int", "str", "list", "tuple", "dict"].all fun n => oB (PySem.W.kitOne K (.type n) (.ref (He.ga K c))) (some false))
theorem isB_ok {K : PySem.W.Frag} {mg : Str → Option Value} {c : Str} (h : isB K c = true) (g : mg c = some (.ref (He.ga K c))) (cl : Cls K (He.ga K c)) : IsC K mg (He.ga K) c := by
  simp only [isB, oB, Bool.and_eq_true, decide_eq_true_eq, List.all_eq_true] at h
  obtain ⟨⟨⟨⟨⟨h1, h2⟩, h3⟩, h4⟩, h5⟩, h6⟩ := h
  exact ⟨g, cl, h1, h2, h3, h4, h5, h6⟩
def eqB (K : PySem.W.Frag) (c : Str) : Bool := oB (PySem.W.findIn K (.ref (He.ga K c)) "__ne__") (some (some (.builtin "object.__ne__"))) && oB (PySem.W.subIn K (.ref (He.ga K c)) (.type "object")) (some true)
theorem eqB_ok {K : PySem.W.Frag} {c : Str} (h : eqB K c = true) : PySem.W.findIn K (.ref (He.ga K c)) "__ne__" = some (some (.builtin "object.__ne__")) ∧ PySem.W.subIn K (.ref (He.ga K c)) (.type "object") = some true := by
  simp only [eqB, oB, Bool.and_eq_true, decide_eq_true_eq] at h
  exact h
theorem walk_W {l : PySem.W.OpenLaw} {n k : Nat} {q : Program} {loose : List Str} {XP : (Str → Option Value) → Heap → Prop} {YP : World → Heap → Prop} {d : DefRec} {CX : World → CXT} {x : Str}
    (hn : l.most = some n) (hn2 : n ≤ sizeLine) (hdf : d.params.defaults = []) (hr : Room k callerA)
    (F : ∀ (w : World) (mg : Str → Option Value) (fa : Addr) (h : Heap), YP w h → h.Ns mainGlobals mg → mg d.name = some (.ref fa) →
      ∃ (K : PySem.W.Frag) (fd : FuncData) (sp : Sp), K.In h ∧ (∀ (s : Shared) (u : Value), BindsTo s fd ⟨[u], []⟩ [(x, u)]) ∧
        (∀ (H : Hp) (a : Addr) (ns : List Int), ns.length ≤ n → Only H → SqL K H a (ns.map V.int) → sp [.ref a] H (fun v _ => v = .bl true) fun _ _ _ => False) ∧
        ∀ base : Heap, K.In base → base.Ns mainGlobals mg → FnOk l.prog w K mg base (CX w) k fa fd [x] sp)
    (hCX : ∀ (w : World) (H : Hp) (s : Shared) (e : Value) (s' : Shared), CX w [] H s (fun _ _ _ => False) e s' → False) :
    PySem.W.WalkO q loose XP YP l.row.toRowW d [] (fun f vs => PySem.call f vs) := by
  refine Att.attach_call hn hdf fun w s₀ s₁ mg mb fa o pm cd doc a vs ns G Y ho hd hcd hmg hobj hints hlen hg => ?_
  obtain ⟨K, fd, sp, KX, hb, hsp, hF⟩ := F w mg fa _ Y G.T.g hmg
  exact law_call KX G.T.g G.T.b G.T.builtins G.T.nolimit hg hobj hints (Nat.le_trans hlen hn2) hr hF hb (fun H hO hS => hsp H a ns hlen hO hS) fun H e s' => hCX w H s₁ e s'
theorem noCX {P : Program} {w : World} (H : Hp) (s : Shared) (e : Value) (s' : Shared) (h : L2.CX P w [] H s (fun _ _ _ => False) e s') : False := by
  obtain ⟨_, _, _, _, _, _, _, _, _, _, _, _, hF⟩ := h
  exact hF
def isTru : R Val → Bool
  | .ok (.f (.bool true)) _ => true
  | _ => false
/-- the law's promise at the script -/
theorem law_sp {K : PySem.W.Frag} {cls : Str → Addr} {g : List Slot → R Val} {H : Hp} {a : Addr} {ns : List Int} (hS : SqL K H a (ns.map V.int)) (ht : isTru (g [.vw (ns.map .int)]) = true) : spG ⟨K, cls, none⟩ g [.ref a] H (fun v _ => v = .bl true) fun _ _ _ => False := by
  refine ⟨[.vw (ns.map .int)], H, _, vw_state (a0 := none) (o := fun _ => False) (.refl _) ⟨fun _ h => h, a, ns.map V.int, rfl, hS, repAll_ints ns⟩, ?_⟩
  cases e : g [.vw (ns.map .int)] with
  | stuck =>
    rw [e] at ht
    cases ht
  | err y Γ =>
    rw [e] at ht
    cases ht
  | ok v Γ =>
    rw [e] at ht
    unfold isTru at ht
    split at ht
    · rename_i Γ' he
      cases he
      intro x F' H' own' _ _ rv
      cases rv
      rfl
    · cases ht
theorem same_fd {P : Program} {w : World} {K : PySem.W.Frag} {mg : Str → Option Value} {base : Heap} {CX : CXT} {k : Nat} {x qual : Str} {params : Arguments} {body : List Stmt} {scope : Scope} {f : Addr} {fd fd' : FuncData} {ps : List Str} {sp : Sp}
    (F : FunD K x qual params body scope [] [] f fd) (F' : FunD K x qual params body scope [] [] f fd') (O : FnOk P w K mg base CX k f fd' ps sp) : FnOk P w K mg base CX k f fd ps sp := by
  obtain ⟨oc, od, dV, kV, doc, pm, an, cdv, ct, osl, e1, l1, _⟩ := F.ex
  obtain ⟨oc', od', dV', kV', doc', pm', an', cdv', ct', osl', e2, l2, _⟩ := F'.ex
  rw [l1] at l2
  simp only [Option.some.injEq, Obj.mk.injEq, Data.func.injEq] at l2
  rw [l2.2.2.1]
  exact O
end DL
end

section
set_option Elab.async false
set_option linter.all false
set_option maxRecDepth 100000
set_option autoImplicit false
set_option maxHeartbeats 1000000
/-! EQ1: data with other names. -/
namespace DL
open PySem PySem.Spec PyProof.Rows L2
structure Mono (φ : Str → Str) : Prop where
  lt : ∀ s t : Str, strKind.blt (φ s).cps.toList (φ t).cps.toList = strKind.blt s.cps.toList t.cps.toList
  inj : ∀ s t : Str, φ s = φ t → s = t
section
variable (φ : Str → Str)
mutual
def mp : D → D
  | .none => .none
  | .bool b => .bool b
  | .int i => .int i
  | .str s => .str (φ s)
  | .list ds => .list (mpL ds)
  | .tuple ds => .tuple (mpL ds)
  | .dict [] => .dict []
  | .dict ((.none, .str c) :: r) => .dict ((.none, .str c) :: mpV r)
  | .dict ((k, v) :: r) => .dict ((mp k, mp v) :: mpK r)
def mpL : List D → List D
  | [] => []
  | d :: r => mp d :: mpL r
def mpK : List (D × D) → List (D × D)
  | [] => []
  | (k, v) :: r => (mp k, mp v) :: mpK r
def mpV : List (D × D) → List (D × D)
  | [] => []
  | (k, v) :: r => (k, mp v) :: mpV r
end
end
variable {φ : Str → Str}
theorem mpL_map : ∀ ds : List D, mpL φ ds = ds.map (mp φ)
  | [] => by simp [mpL]
  | d :: r => by simp [mpL, mpL_map r]
theorem mpV_map : ∀ r : List (D × D), mpV φ r = r.map fun p => (p.1, mp φ p.2)
  | [] => by simp [mpV]
  | (k, v) :: r => by simp [mpV, mpV_map r]
theorem mpK_map : ∀ r : List (D × D), mpK φ r = r.map fun p => (mp φ p.1, mp φ p.2)
  | [] => by simp [mpK]
  | (k, v) :: r => by simp [mpK, mpK_map r]
theorem mp_list (ds : List D) : mp φ (.list ds) = .list (ds.map (mp φ)) := by rw [mp, mpL_map]
theorem mp_tuple (ds : List D) : mp φ (.tuple ds) = .tuple (ds.map (mp φ)) := by rw [mp, mpL_map]
theorem mp_none : mp φ .none = .none := by rw [mp]
theorem mp_bool (b : Bool) : mp φ (.bool b) = .bool b := by rw [mp]
theorem mp_int (i : Int) : mp φ (.int i) = .int i := by rw [mp]
theorem mp_str (s : Str) : mp φ (.str s) = .str (φ s) := by rw [mp]
def mpk (φ : Str → Str) : Key → Key
  | .inl i => .inl i
  | .inr s => .inr (φ s)
theorem mp_keyD (k : Key) : mp φ (keyD k) = keyD (mpk φ k) := by
  cases k with
  | inl i => exact mp_int i
  | inr s => exact mp_str s
theorem mp_dic1 (n : Int) (r : List (D × D)) : mp φ (.dict ((.none, .int n) :: r)) = .dict ((.none, .int n) :: mpK φ r) := by
  rw [mp, mp_none, mp_int]
  intro c _ h
  cases h
theorem mp_dicK (kds : List (Key × D)) : mp φ (dicK kds) = dicK (kds.map fun p => (mpk φ p.1, mp φ p.2)) := by
  unfold dicK
  rw [mp_dic1, mpK_map]
  simp [mp_keyD]
theorem mp_dicF (kds : List (Key × D)) : mp φ (dicF kds) = dicF (kds.map fun p => (mpk φ p.1, mp φ p.2)) := by
  unfold dicF
  rw [mp_dic1, mpK_map]
  simp [mp_keyD]
theorem mp_keyT (ks : List Key) : mp φ (keyT ks) = keyT (ks.map (mpk φ)) := by
  unfold keyT
  rw [mp_tuple]
  simp [mp_keyD]
theorem mp_dicT (kds : List (List Key × D)) : mp φ (dicT kds) = dicT (kds.map fun p => (p.1.map (mpk φ), mp φ p.2)) := by
  unfold dicT
  rw [mp_dic1, mpK_map]
  simp [mp_keyT]
theorem mp_knD (ds : List D) : mp φ (knD ds) = knD (ds.map (mp φ)) := by
  unfold knD
  rw [mp_dic1, mpK_map]
  simp [mp_none, mp_tuple]
theorem mp_ins (c : Str) (fds : List (Str × D)) : mp φ (ins c fds) = ins c (fds.map fun p => (p.1, mp φ p.2)) := by
  unfold DL.ins
  rw [mp, mpV_map]
  simp
theorem mp_isDict : ∀ kvs : List (D × D), ∃ r, mp φ (.dict kvs) = .dict r
  | [] => ⟨[], by rw [mp]⟩
  | (k, v) :: r => by
    by_cases h : ∃ c, k = .none ∧ v = .str c
    · obtain ⟨c, rfl, rfl⟩ := h
      exact ⟨_, by rw [mp]⟩
    · refine ⟨(mp φ k, mp φ v) :: mpK φ r, ?_⟩
      rw [mp]
      intro c hc hv
      exact h ⟨c, hc, hv⟩
mutual
theorem eqv_mp (M : Mono φ) : ∀ d e : D, PyData.eqv (mp φ d) (mp φ e) = PyData.eqv d e
  | .none, e => by cases e <;> first | (simp [mp_none, mp_bool, mp_int, mp_str, mp_list, mp_tuple, PyData.eqv]; done) | (rename_i kvs; obtain ⟨r, hr⟩ := mp_isDict (φ := φ) kvs; simp [hr, mp_none, PyData.eqv])
  | .bool b, e => by cases e <;> first | (simp [mp_none, mp_bool, mp_int, mp_str, mp_list, mp_tuple, PyData.eqv]; done) | (rename_i kvs; obtain ⟨r, hr⟩ := mp_isDict (φ := φ) kvs; simp [hr, mp_bool, PyData.eqv])
  | .int i, e => by cases e <;> first | (simp [mp_none, mp_bool, mp_int, mp_str, mp_list, mp_tuple, PyData.eqv]; done) | (rename_i kvs; obtain ⟨r, hr⟩ := mp_isDict (φ := φ) kvs; simp [hr, mp_int, PyData.eqv])
  | .str s, e => by
    cases e with
    | str t =>
      simp only [mp_str, PyData.eqv]
      rw [Bool.eq_iff_iff, beq_iff_eq, beq_iff_eq]
      exact ⟨M.inj _ _, congrArg φ⟩
    | dict kvs =>
      obtain ⟨r, hr⟩ := mp_isDict (φ := φ) kvs
      simp [hr, mp_str, PyData.eqv]
    | _ => simp [mp_none, mp_bool, mp_int, mp_str, mp_list, mp_tuple, PyData.eqv]
  | .list xs, e => by
    cases e with
    | list ys =>
      simp only [mp_list, PyData.eqv]
      exact eqvAll_mp M xs ys
    | dict kvs =>
      obtain ⟨r, hr⟩ := mp_isDict (φ := φ) kvs
      simp [hr, mp_list, PyData.eqv]
    | _ => simp [mp_none, mp_bool, mp_int, mp_str, mp_list, mp_tuple, PyData.eqv]
  | .tuple xs, e => by
    cases e with
    | tuple ys =>
      simp only [mp_tuple, PyData.eqv]
      exact eqvAll_mp M xs ys
    | dict kvs =>
      obtain ⟨r, hr⟩ := mp_isDict (φ := φ) kvs
      simp [hr, mp_tuple, PyData.eqv]
    | _ => simp [mp_none, mp_bool, mp_int, mp_str, mp_list, mp_tuple, PyData.eqv]
  | .dict kvs, e => by
    obtain ⟨r, hr⟩ := mp_isDict (φ := φ) kvs
    cases e with
    | dict kvs2 =>
      obtain ⟨r2, hr2⟩ := mp_isDict (φ := φ) kvs2
      simp [hr, hr2, PyData.eqv]
    | _ => simp [hr, mp_none, mp_bool, mp_int, mp_str, mp_list, mp_tuple, PyData.eqv]
theorem eqvAll_mp (M : Mono φ) : ∀ ds es : List D, PyData.eqvAll (ds.map (mp φ)) (es.map (mp φ)) = PyData.eqvAll ds es
  | [], [] => rfl
  | [], _ :: _ => rfl
  | _ :: _, [] => rfl
  | d :: ds, e :: es => by
    simp only [List.map_cons, PyData.eqvAll]
    rw [eqv_mp M d e, eqvAll_mp M ds es]
end

theorem plainAll_all : ∀ ds : List D, PyData.plainAll ds = ds.all PyData.plain
  | [] => rfl
  | d :: ds => by simp [PyData.plainAll, plainAll_all ds]
mutual
theorem plain_mp : ∀ d : D, (mp φ d).plain = d.plain
  | .none => by simp [mp_none]
  | .bool b => by simp [mp_bool]
  | .int i => by simp [mp_int]
  | .str s => by simp [mp_str, PyData.plain]
  | .list xs => by
    simp only [mp_list, PyData.plain]
    exact plainAll_mp xs
  | .tuple xs => by
    simp only [mp_tuple, PyData.plain]
    exact plainAll_mp xs
  | .dict kvs => by
    obtain ⟨r, hr⟩ := mp_isDict (φ := φ) kvs
    simp [hr, PyData.plain]
theorem plainAll_mp : ∀ ds : List D, PyData.plainAll (ds.map (mp φ)) = PyData.plainAll ds
  | [] => rfl
  | d :: ds => by
    simp only [List.map_cons, PyData.plainAll]
    rw [plain_mp d, plainAll_mp ds]
end
mutual
theorem alike_mp : ∀ d e : D, PySem.W.alike (mp φ d) (mp φ e) = PySem.W.alike d e
  | .none, e => by
    cases e with
    | dict kvs =>
      obtain ⟨r, hr⟩ := mp_isDict (φ := φ) kvs
      simp [hr, mp_none, PySem.W.alike]
    | _ => simp [mp_none, mp_bool, mp_int, mp_str, mp_list, mp_tuple, PySem.W.alike]
  | .bool b, e => by
    cases e with
    | dict kvs =>
      obtain ⟨r, hr⟩ := mp_isDict (φ := φ) kvs
      simp [hr, mp_bool, PySem.W.alike]
    | _ => simp [mp_none, mp_bool, mp_int, mp_str, mp_list, mp_tuple, PySem.W.alike]
  | .int i, e => by
    cases e with
    | dict kvs =>
      obtain ⟨r, hr⟩ := mp_isDict (φ := φ) kvs
      simp [hr, mp_int, PySem.W.alike]
    | _ => simp [mp_none, mp_bool, mp_int, mp_str, mp_list, mp_tuple, PySem.W.alike]
  | .str s, e => by
    cases e with
    | dict kvs =>
      obtain ⟨r, hr⟩ := mp_isDict (φ := φ) kvs
      simp [hr, mp_str, PySem.W.alike]
    | _ => simp [mp_none, mp_bool, mp_int, mp_str, mp_list, mp_tuple, PySem.W.alike]
  | .list xs, e => by
    cases e with
    | list ys =>
      simp only [mp_list, PySem.W.alike]
      exact alikeAll_mp xs ys
    | dict kvs =>
      obtain ⟨r, hr⟩ := mp_isDict (φ := φ) kvs
      simp [hr, mp_list, PySem.W.alike]
    | _ => simp [mp_none, mp_bool, mp_int, mp_str, mp_list, mp_tuple, PySem.W.alike]
  | .tuple xs, e => by
    cases e with
    | tuple ys =>
      simp only [mp_tuple, PySem.W.alike]
      exact alikeAll_mp xs ys
    | dict kvs =>
      obtain ⟨r, hr⟩ := mp_isDict (φ := φ) kvs
      simp [hr, mp_tuple, PySem.W.alike]
    | _ => simp [mp_none, mp_bool, mp_int, mp_str, mp_list, mp_tuple, PySem.W.alike]
  | .dict kvs, e => by
    obtain ⟨r, hr⟩ := mp_isDict (φ := φ) kvs
    cases e with
    | dict kvs2 =>
      obtain ⟨r2, hr2⟩ := mp_isDict (φ := φ) kvs2
      simp [hr, hr2, PySem.W.alike]
    | _ => simp [hr, mp_none, mp_bool, mp_int, mp_str, mp_list, mp_tuple, PySem.W.alike]
theorem alikeAll_mp : ∀ ds es : List D, PySem.W.alikeAll (ds.map (mp φ)) (es.map (mp φ)) = PySem.W.alikeAll ds es
  | [], [] => rfl
  | [], _ :: _ => rfl
  | _ :: _, [] => rfl
  | d :: ds, e :: es => by
    simp only [List.map_cons, PySem.W.alikeAll]
    rw [alike_mp d e, alikeAll_mp ds es]
end
mutual
theorem depth_mp : ∀ d : D, (mp φ d).depth = d.depth
  | .none => by simp [mp_none]
  | .bool b => by simp [mp_bool]
  | .int i => by simp [mp_int]
  | .str s => by simp [mp_str, PyData.depth]
  | .list xs => by
    simp only [mp_list, PyData.depth]
    rw [depthAll_mp xs]
  | .tuple xs => by
    simp only [mp_tuple, PyData.depth]
    rw [depthAll_mp xs]
  | .dict [] => by rw [mp]
  | .dict ((k, v) :: r) => by
    by_cases h : ∃ c, k = .none ∧ v = .str c
    · obtain ⟨c, rfl, rfl⟩ := h
      rw [mp]
      simp only [PyData.depth, PyData.depthKv]
      rw [depthV_mp r]
    · rw [mp]
      · simp only [PyData.depth, PyData.depthKv]
        rw [depth_mp k, depth_mp v, depthK_mp r]
      · intro c hc hv
        exact h ⟨c, hc, hv⟩
theorem depthAll_mp : ∀ ds : List D, PyData.depthAll (ds.map (mp φ)) = PyData.depthAll ds
  | [] => rfl
  | d :: ds => by
    simp only [List.map_cons, PyData.depthAll]
    rw [depth_mp d, depthAll_mp ds]
theorem depthK_mp : ∀ ds : List (D × D), PyData.depthKv (mpK φ ds) = PyData.depthKv ds
  | [] => by rw [mpK]
  | (k, v) :: ds => by
    rw [mpK]
    simp only [PyData.depthKv]
    rw [depth_mp k, depth_mp v, depthK_mp ds]
theorem depthV_mp : ∀ ds : List (D × D), PyData.depthKv (mpV φ ds) = PyData.depthKv ds
  | [] => by rw [mpV]
  | (k, v) :: ds => by
    rw [mpV]
    simp only [PyData.depthKv]
    rw [depth_mp v, depthV_mp ds]
end
/-! ### order -/
def tokM (φ : Str → Str) : Int ⊕ List Nat → Int ⊕ List Nat
  | .inl i => .inl i
  | .inr l => .inr (φ ⟨l.toArray⟩).cps.toList
mutual
theorem toks_mp : ∀ d : D, PySem.W.keyToks (mp φ d) = (PySem.W.keyToks d).map (tokM φ)
  | .none => by simp [mp_none, PySem.W.keyToks]
  | .bool b => by simp [mp_bool, PySem.W.keyToks, tokM]
  | .int i => by simp [mp_int, PySem.W.keyToks, tokM]
  | .str s => by simp [mp_str, PySem.W.keyToks, tokM]
  | .list xs => by
    simp only [mp_list, PySem.W.keyToks]
    exact toksAll_mp xs
  | .tuple xs => by
    simp only [mp_tuple, PySem.W.keyToks]
    exact toksAll_mp xs
  | .dict kvs => by
    obtain ⟨r, hr⟩ := mp_isDict (φ := φ) kvs
    simp [hr, PySem.W.keyToks]
theorem toksAll_mp : ∀ ds : List D, PySem.W.keyToksAll (ds.map (mp φ)) = (PySem.W.keyToksAll ds).map (tokM φ)
  | [] => by simp [PySem.W.keyToksAll, tokM]
  | d :: ds => by
    simp only [List.map_cons, PySem.W.keyToksAll, List.map_append]
    rw [toks_mp d, toksAll_mp ds]
    simp [tokM]
end
theorem itemLt_mp (M : Mono φ) (a b : Int ⊕ List Nat) : itemLt (tokM φ a) (tokM φ b) = itemLt a b := by
  cases a with
  | inl a => cases b <;> rfl
  | inr a =>
    cases b with
    | inl b => rfl
    | inr b =>
      have := M.lt ⟨a.toArray⟩ ⟨b.toArray⟩
      simpa [tokM, itemLt] using this
theorem lex_mp (M : Mono φ) : ∀ l m : List (Int ⊕ List Nat), PyProof.Rows.lexLt itemOrd (l.map (tokM φ)) (m.map (tokM φ)) = PyProof.Rows.lexLt itemOrd l m
  | [], [] => rfl
  | [], _ :: _ => rfl
  | _ :: _, [] => rfl
  | a :: l, b :: m => by
    simp only [List.map_cons]
    rw [lex_cons, lex_cons, lex_mp M l m]
    have h1 : itemOrd.blt (tokM φ a) (tokM φ b) = itemOrd.blt a b := itemLt_mp M a b
    have h2 : itemOrd.blt (tokM φ b) (tokM φ a) = itemOrd.blt b a := itemLt_mp M b a
    rw [h1, h2]
theorem dataLt_mp (M : Mono φ) (d e : D) : PySem.W.dataLt (mp φ d) (mp φ e) = PySem.W.dataLt d e := by
  unfold PySem.W.dataLt
  rw [toks_mp, toks_mp, lex_mp M]
theorem okE_mp (d e : D) : okE (mp φ d) (mp φ e) = okE d e := by
  unfold okE
  rw [plain_mp, plain_mp, depth_mp, depth_mp]
theorem none_mp (d : D) : (match mp φ d with | .none => true | _ => false) = (match d with | .none => true | _ => false) := by
  cases d with
  | dict kvs =>
    obtain ⟨r, hr⟩ := mp_isDict (φ := φ) kvs
    simp [hr]
  | _ => simp [mp_none, mp_bool, mp_int, mp_str, mp_list, mp_tuple]
theorem okL_mp (d e : D) : okL (mp φ d) (mp φ e) = okL d e := by
  unfold okL
  rw [alike_mp, plain_mp, plain_mp, depth_mp, depth_mp]
  cases d with
  | dict kvs =>
    obtain ⟨r, hr⟩ := mp_isDict (φ := φ) kvs
    simp [hr]
  | _ => simp [mp_none, mp_bool, mp_int, mp_str, mp_list, mp_tuple]
theorem okI_mp (ds : List D) (d : D) : okI (ds.map (mp φ)) (mp φ d) = okI ds d := by
  unfold okI
  rw [plain_mp, plainAll_mp, depth_mp, depthAll_mp]
theorem any_mp (M : Mono φ) (ds : List D) (d : D) : ((ds.map (mp φ)).any fun z => PyData.eqv z (mp φ d)) = ds.any fun z => PyData.eqv z d := by
  rw [List.any_map]
  congr 1
  funext z
  exact eqv_mp M z d
end DL
end

section
set_option Elab.async false
set_option linter.all false
set_option maxRecDepth 100000
set_option autoImplicit false
set_option maxHeartbeats 1000000
/-! EQ2: slots, values and results with other names; what the views answer. -/
namespace DL
open PySem PySem.Spec PyProof.Rows L2
section
variable (φ : Str → Str)
def mpX (kvs : List (D × D)) : List (D × D) := match mp φ (.dict kvs) with
  | .dict r => r
  | _ => []
abbrev mD : List D → List D := List.map (mp φ)
abbrev mK : List (Key × D) → List (Key × D) := List.map fun p => (mpk φ p.1, mp φ p.2)
abbrev mT : List (List Key × D) → List (List Key × D) := List.map fun p => (p.1.map (mpk φ), mp φ p.2)
abbrev mI : List (Str × D) → List (Str × D) := List.map fun p => (p.1, mp φ p.2)
def fF : Fld → Fld
  | .fz d => .fz (mp φ d)
  | .ol ds => .ol (mD φ ds)
  | .oK ds => .oK (mK φ ds)
  | .oT ds => .oT (mT φ ds)
def fS : Slot → Slot
  | .un => .un
  | .one f => .one (fF φ f)
  | .cmp c p fds => .cmp c p (mI φ fds)
  | .box n p d => .box n p (mp φ d)
  | .vw ds => .vw (mD φ ds)
def fV : Val → Val
  | .f d => .f (mp φ d)
  | .b i => .b i
  | .n f => .n (fF φ f)
  | .nc c fds => .nc c (mI φ fds)
  | .nb n d => .nb n (mp φ d)
def fE (e : Exc) : Exc := ⟨e.cls, e.fld, mp φ e.d⟩
abbrev fG : Gam → Gam := List.map (fS φ)
def rm {α β : Type} (g : α → β) : R α → R β
  | .ok a Γ => .ok (g a) (fG φ Γ)
  | .err e Γ => .err (fE φ e) (fG φ Γ)
  | .stuck => .stuck
def LeR {α β : Type} (g : α → β) (r' : R α) (r : R β) : Prop := r' = .stuck ∨ r = rm φ g r'
def rmS : RS → RS
  | .nx Γ => .nx (fG φ Γ)
  | .rt v Γ => .rt (fV φ v) (fG φ Γ)
  | .bk Γ => .bk (fG φ Γ)
  | .ct Γ => .ct (fG φ Γ)
  | .err e Γ => .err (fE φ e) (fG φ Γ)
  | .stuck => .stuck
def LeS (r' r : RS) : Prop := r' = .stuck ∨ r = rmS φ r'
end
variable {φ : Str → Str}
theorem mp_dict (kvs : List (D × D)) : mp φ (.dict kvs) = .dict (mpX φ kvs) := by
  obtain ⟨r, hr⟩ := mp_isDict (φ := φ) kvs
  simp [mpX, hr]
section
variable {α β γ δ : Type} {g : α → β} {h : γ → δ}
theorem LeR.stuck {r : R β} : LeR φ g (.stuck : R α) r := .inl rfl
theorem LeR.eq {r' : R α} : LeR φ g r' (rm φ g r') := .inr rfl
theorem LeR.of {r' : R α} {r : R β} (e : r = rm φ g r') : LeR φ g r' r := .inr e
theorem LeR.ok {a : α} {Γ : Gam} : LeR φ g (.ok a Γ) (.ok (g a) (fG φ Γ)) := .inr rfl
theorem LeR.bind {r' : R α} {r : R β} {k' : α → Gam → R γ} {k : β → Gam → R δ} (e : LeR φ g r' r) (q : ∀ a Γ, LeR φ h (k' a Γ) (k (g a) (fG φ Γ))) : LeR φ h (r'.bind k') (r.bind k) := by
  rcases e with rfl | rfl
  · exact .inl rfl
  · cases r' with
    | ok a Γ => exact q a Γ
    | err e Γ => exact .inr rfl
    | stuck => exact .inl rfl
theorem LeS.stm {r' : R α} {r : R β} {k' : α → Gam → RS} {k : β → Gam → RS} (e : LeR φ g r' r) (q : ∀ a Γ, LeS φ (k' a Γ) (k (g a) (fG φ Γ))) : LeS φ (stm r' k') (stm r k) := by
  rcases e with rfl | rfl
  · exact .inl rfl
  · cases r' with
    | ok a Γ => exact q a Γ
    | err e Γ => exact .inr rfl
    | stuck => exact .inl rfl
theorem LeS.nx {Γ : Gam} : LeS φ (.nx Γ) (.nx (fG φ Γ)) := .inr rfl
theorem LeS.st {r : RS} : LeS φ .stuck r := .inl rfl
end
/-! ### slots -/
@[simp] theorem fG_get (Γ : Gam) (i : Nat) : (fG φ Γ)[i]? = Γ[i]?.map (fS φ) := by simp [fG]
theorem fG_set (Γ : Gam) (i : Nat) (s : Slot) : fG φ (Γ.set i s) = (fG φ Γ).set i (fS φ s) := by simp [fG, List.map_set]
@[simp] theorem fG_len (Γ : Gam) : (fG φ Γ).length = Γ.length := by simp [fG]
theorem fS_val (d : D) : fS φ (.val d) = .val (mp φ d) := rfl
theorem fS_own (ds : List D) : fS φ (.own ds) = .own (mD φ ds) := rfl
theorem fldD_mp (f : Fld) : fldD (fF φ f) = mp φ (fldD f) := by
  cases f with
  | fz d => rfl
  | ol ds => simp [fF, fldD, mp_list]
  | oK ds => simp [fF, fldD, mp_dicK]
  | oT ds => simp [fF, fldD, mp_dicT]
theorem frzT_mp (n : Nat) (d : D) : frzT n (mp φ d) = (frzT n d).map (mp φ) := by
  unfold frzT
  split <;> simp [mp_ins]
theorem slotD_mp (s : Slot) : slotD (fS φ s) = (slotD s).map (mp φ) := by
  cases s with
  | un => rfl
  | one f => simp [fS, slotD, fldD_mp]
  | cmp c p fds => simp [fS, slotD, mp_ins]
  | box n p d => simp [fS, slotD, frzT_mp]
  | vw ds => rfl
theorem rdV_mp (Γ : Gam) (v : Val) : rdV (fG φ Γ) (fV φ v) = rm φ (fV φ) (rdV Γ v) := by
  cases v with
  | f d => rfl
  | b i => rfl
  | n f => simp [rdV, fV, fldD_mp, rm]
  | nc c fds => simp [rdV, fV, mp_ins, rm]
  | nb n d =>
    simp only [rdV, fV, frzT_mp]
    cases frzT n d <;> rfl
theorem fzV_mp (Γ : Gam) (v : Val) : fzV (fG φ Γ) (fV φ v) = rm φ (mp φ) (fzV Γ v) := by
  cases v with
  | f d => rfl
  | b i =>
    simp only [fzV, fV, fG_get]
    cases Γ[i]? with
    | none => rfl
    | some s =>
      simp only [Option.map_some, slotD_mp]
      cases slotD s with
      | none => rfl
      | some d => simp [rm, fG_set, fS_val]
  | n f => simp [fzV, fV, fldD_mp, rm]
  | nc c fds => simp [fzV, fV, mp_ins, rm]
  | nb n d =>
    simp only [fzV, fV, frzT_mp]
    cases frzT n d <;> rfl
/-! ### views -/
theorem keyOf_mp (d : D) : keyOf (mp φ d) = (keyOf d).map (mpk φ) := by
  cases d <;> simp [mp_none, mp_bool, mp_int, mp_str, mp_list, mp_tuple, mp_dict, keyOf, mpk]
theorem keysOf_mp : ∀ ds : List D, keysOf (mD φ ds) = (keysOf ds).map (List.map (mpk φ))
  | [] => rfl
  | d :: r => by
    simp only [mD, List.map_cons, keysOf]
    rw [keyOf_mp, keysOf_mp r]
    cases keyOf d <;> cases keysOf r <;> rfl
theorem keyTOf_mp (d : D) : keyTOf (mp φ d) = (keyTOf d).map (List.map (mpk φ)) := by
  cases d <;> simp [mp_none, mp_bool, mp_int, mp_str, mp_list, mp_tuple, mp_dict, keyTOf]
  exact keysOf_mp _
theorem prsK_mp : ∀ r : List (D × D), prsK (mpK φ r) = (prsK r).map (mK φ)
  | [] => by simp [mpK, prsK]
  | (k, v) :: r => by
    rw [mpK]
    simp only [prsK]
    rw [keyOf_mp, prsK_mp r]
    cases keyOf k <;> cases prsK r <;> rfl
theorem prsT_mp : ∀ r : List (D × D), prsT (mpK φ r) = (prsT r).map (mT φ)
  | [] => by simp [mpK, prsT]
  | (k, v) :: r => by
    rw [mpK]
    simp only [prsT]
    rw [keyTOf_mp, prsT_mp r]
    cases keyTOf k <;> cases prsT r <;> rfl
theorem strsOf_mp : ∀ r : List (D × D), strsOf (mpV φ r) = (strsOf r).map (mI φ)
  | [] => by simp [mpV, strsOf]
  | (k, v) :: r => by
    rw [mpV]
    simp only [strsOf]
    rw [strsOf_mp r]
    cases k <;> cases strsOf r <;> rfl
/-- the shape of a dict's first pair is kept -/
theorem mp_dcase (kvs : List (D × D)) : (kvs = [] ∧ mp φ (.dict kvs) = .dict []) ∨ (∃ c r, kvs = (.none, .str c) :: r ∧ mp φ (.dict kvs) = .dict ((.none, .str c) :: mpV φ r)) ∨
    (∃ n r, kvs = (.none, .int n) :: r ∧ mp φ (.dict kvs) = .dict ((.none, .int n) :: mpK φ r)) ∨
    (∃ k v r, kvs = (k, v) :: r ∧ mp φ (.dict kvs) = .dict ((mp φ k, mp φ v) :: mpK φ r) ∧ (∀ c, ¬ (k = .none ∧ v = .str c)) ∧ (∀ n, ¬ (k = .none ∧ v = .int n)) ∧ (∀ c, ¬ (mp φ k = .none ∧ mp φ v = .str c)) ∧ (∀ n, ¬ (mp φ k = .none ∧ mp φ v = .int n))) := by
  cases kvs with
  | nil => exact .inl ⟨rfl, by rw [mp]⟩
  | cons p r =>
    obtain ⟨k, v⟩ := p
    by_cases h1 : ∃ c, k = .none ∧ v = .str c
    · obtain ⟨c, rfl, rfl⟩ := h1
      exact .inr (.inl ⟨c, r, rfl, by rw [mp]⟩)
    · by_cases h2 : ∃ n, k = .none ∧ v = .int n
      · obtain ⟨n, rfl, rfl⟩ := h2
        exact .inr (.inr (.inl ⟨n, r, rfl, mp_dic1 n r⟩))
      · refine .inr (.inr (.inr ⟨k, v, r, rfl, ?_, fun c h => h1 ⟨c, h⟩, fun n h => h2 ⟨n, h⟩, ?_, ?_⟩))
        · rw [mp]
          intro c hc hv
          exact h1 ⟨c, hc, hv⟩
        · intro c h
          cases k <;> cases v <;> first | exact h1 ⟨_, rfl, rfl⟩ | (simp [mp_none, mp_bool, mp_int, mp_str, mp_list, mp_tuple, mp_dict] at h; done)
        · intro n h
          cases k <;> cases v <;> first | exact h2 ⟨_, rfl, rfl⟩ | (simp [mp_none, mp_bool, mp_int, mp_str, mp_list, mp_tuple, mp_dict] at h; done)
theorem decK_o (k v : D) (r : List (D × D)) (h : ∀ n, ¬ (k = .none ∧ v = .int n)) : decK (.dict ((k, v) :: r)) = none := by
  unfold decK
  split <;> simp_all
theorem decK_i (n : Int) (r : List (D × D)) : decK (.dict ((.none, .int n) :: r)) = if n = 0 ∨ n = 3 then prsK r else none := by
  unfold decK
  split <;> simp_all
theorem decT_o (k v : D) (r : List (D × D)) (h : ∀ n, ¬ (k = .none ∧ v = .int n)) : decT (.dict ((k, v) :: r)) = none := by
  unfold decT
  split <;> simp_all
theorem decT_i (n : Int) (r : List (D × D)) : decT (.dict ((.none, .int n) :: r)) = if n = 1 then prsT r else none := by
  unfold decT
  split <;> simp_all
theorem kdOf_o (k v : D) (r : List (D × D)) (h : ∀ n, ¬ (k = .none ∧ v = .int n)) : kdOf (.dict ((k, v) :: r)) = none := by
  unfold kdOf
  split <;> simp_all
theorem kdOf_i (n : Int) (r : List (D × D)) : kdOf (.dict ((.none, .int n) :: r)) = if n = 0 then prsK r else none := by
  unfold kdOf
  split <;> simp_all
theorem dicOf_o (k v : D) (r : List (D × D)) (h : ∀ n, ¬ (k = .none ∧ v = .int n)) : dicOf (.dict ((k, v) :: r)) = none := by
  unfold dicOf
  split <;> simp_all
theorem dicOf_i (n : Int) (r : List (D × D)) : dicOf (.dict ((.none, .int n) :: r)) = if n = 3 then prsK r else none := by
  unfold dicOf
  split <;> simp_all
theorem decI_o (k v : D) (r : List (D × D)) (h : ∀ n, ¬ (k = .none ∧ v = .str n)) : decI (.dict ((k, v) :: r)) = none := by
  unfold decI
  split <;> simp_all
theorem tyD_o (k v : D) (r : List (D × D)) (h : ∀ n, ¬ (k = .none ∧ v = .str n)) (h2 : ∀ n, ¬ (k = .none ∧ v = .int n)) : tyD (.dict ((k, v) :: r)) = .dic := by
  unfold tyD
  split <;> simp_all
theorem tyD_i (n : Int) (r : List (D × D)) : tyD (.dict ((.none, .int n) :: r)) = if n = 2 then .cls "" else .dic := by
  unfold tyD
  split <;> simp_all
  rename_i h9 h10
  intro hn
  subst hn
  exact h9 _ h10.symm
theorem knOf_o (k v : D) (r : List (D × D)) (h : ∀ n, ¬ (k = .none ∧ v = .int n)) : knOf (.dict ((k, v) :: r)) = none := by
  unfold knOf
  split <;> simp_all
theorem decK_mp (d : D) : decK (mp φ d) = (decK d).map (mK φ) := by
  cases d with
  | dict kvs =>
    rcases mp_dcase (φ := φ) kvs with ⟨rfl, h⟩ | ⟨c, r, rfl, h⟩ | ⟨n, r, rfl, h⟩ | ⟨k, v, r, rfl, h, h1, h2, h3, h4⟩
    · rw [h]; rfl
    · rw [h]; rfl
    · rw [h, decK_i, decK_i]
      split
      · exact prsK_mp r
      · rfl
    · rw [h, decK_o _ _ _ h2, decK_o _ _ _ h4]; rfl
  | _ => simp [mp_none, mp_bool, mp_int, mp_str, mp_list, mp_tuple, decK]
theorem decT_mp (d : D) : decT (mp φ d) = (decT d).map (mT φ) := by
  cases d with
  | dict kvs =>
    rcases mp_dcase (φ := φ) kvs with ⟨rfl, h⟩ | ⟨c, r, rfl, h⟩ | ⟨n, r, rfl, h⟩ | ⟨k, v, r, rfl, h, h1, h2, h3, h4⟩
    · rw [h]; rfl
    · rw [h]; rfl
    · rw [h, decT_i, decT_i]
      split
      · exact prsT_mp r
      · rfl
    · rw [h, decT_o _ _ _ h2, decT_o _ _ _ h4]; rfl
  | _ => simp [mp_none, mp_bool, mp_int, mp_str, mp_list, mp_tuple, decT]
theorem kdOf_mp (d : D) : kdOf (mp φ d) = (kdOf d).map (mK φ) := by
  cases d with
  | dict kvs =>
    rcases mp_dcase (φ := φ) kvs with ⟨rfl, h⟩ | ⟨c, r, rfl, h⟩ | ⟨n, r, rfl, h⟩ | ⟨k, v, r, rfl, h, h1, h2, h3, h4⟩
    · rw [h]; rfl
    · rw [h]; rfl
    · rw [h, kdOf_i, kdOf_i]
      split
      · exact prsK_mp r
      · rfl
    · rw [h, kdOf_o _ _ _ h2, kdOf_o _ _ _ h4]; rfl
  | _ => simp [mp_none, mp_bool, mp_int, mp_str, mp_list, mp_tuple, kdOf]
theorem dicOf_mp (d : D) : dicOf (mp φ d) = (dicOf d).map (mK φ) := by
  cases d with
  | dict kvs =>
    rcases mp_dcase (φ := φ) kvs with ⟨rfl, h⟩ | ⟨c, r, rfl, h⟩ | ⟨n, r, rfl, h⟩ | ⟨k, v, r, rfl, h, h1, h2, h3, h4⟩
    · rw [h]; rfl
    · rw [h]; rfl
    · rw [h, dicOf_i, dicOf_i]
      split
      · exact prsK_mp r
      · rfl
    · rw [h, dicOf_o _ _ _ h2, dicOf_o _ _ _ h4]; rfl
  | _ => simp [mp_none, mp_bool, mp_int, mp_str, mp_list, mp_tuple, dicOf]
def mI2 (φ : Str → Str) (p : Str × List (Str × D)) : Str × List (Str × D) := (p.1, mI φ p.2)
theorem decI_mp (d : D) : decI (mp φ d) = (decI d).map (mI2 φ) := by
  cases d with
  | dict kvs =>
    rcases mp_dcase (φ := φ) kvs with ⟨rfl, h⟩ | ⟨c, r, rfl, h⟩ | ⟨n, r, rfl, h⟩ | ⟨k, v, r, rfl, h, h1, h2, h3, h4⟩
    · rw [h]; rfl
    · rw [h]
      simp only [decI, strsOf_mp]
      cases strsOf r <;> rfl
    · rw [h]; rfl
    · rw [h, decI_o _ _ _ h1, decI_o _ _ _ h3]; rfl
  | _ => simp [mp_none, mp_bool, mp_int, mp_str, mp_list, mp_tuple, decI]
theorem tyD_mp (d : D) : tyD (mp φ d) = tyD d := by
  cases d with
  | dict kvs =>
    rcases mp_dcase (φ := φ) kvs with ⟨rfl, h⟩ | ⟨c, r, rfl, h⟩ | ⟨n, r, rfl, h⟩ | ⟨k, v, r, rfl, h, h1, h2, h3, h4⟩
    · rw [h]
    · rw [h]; rfl
    · rw [h, tyD_i, tyD_i]
    · rw [h, tyD_o _ _ _ h1 h2, tyD_o _ _ _ h3 h4]
  | _ => simp [mp_none, mp_bool, mp_int, mp_str, mp_list, mp_tuple, tyD]
theorem knOf_mp (d : D) : knOf (mp φ d) = (knOf d).map (mD φ) := by
  cases d with
  | dict kvs =>
    rcases mp_dcase (φ := φ) kvs with ⟨rfl, h⟩ | ⟨c, r, rfl, h⟩ | ⟨n, r, rfl, h⟩ | ⟨k, v, r, rfl, h, h1, h2, h3, h4⟩
    · rw [h]; rfl
    · rw [h]; rfl
    · rw [h]
      cases r with
      | nil =>
        rw [mpK]
        unfold knOf
        split <;> simp_all
      | cons p r =>
        obtain ⟨k, v⟩ := p
        rw [mpK]
        by_cases hr : r = []
        · subst hr
          rw [mpK]
          cases k <;> cases v <;> simp only [mp_none, mp_bool, mp_int, mp_str, mp_list, mp_tuple, mp_dict] <;> first | rfl | (by_cases hn : n = 2 <;> first | (subst hn; rfl) | (unfold knOf; split <;> simp_all))
        · have h7 : mpK φ r ≠ [] := by
            cases r with
            | nil => exact absurd rfl hr
            | cons p r => obtain ⟨a, b⟩ := p; rw [mpK]; simp
          have q : ∀ (n : Int) (p : D × D) (r : List (D × D)), r ≠ [] → knOf (.dict ((.none, .int n) :: p :: r)) = none := by
            intro n p r hr
            unfold knOf
            split <;> simp_all
          rw [q _ _ _ hr, q _ _ _ h7]; rfl
    · rw [h, knOf_o _ _ _ h2, knOf_o _ _ _ h4]; rfl
  | _ => simp [mp_none, mp_bool, mp_int, mp_str, mp_list, mp_tuple, knOf]
theorem strip_kn (d : D) : strip d = match knOf d with
  | some ds => .tuple ds
  | none => d := by
  unfold strip
  split
  · rfl
  · rename_i h
    unfold knOf
    split
    · rename_i h2
      split at h2
      · exact absurd rfl (h _)
      · cases h2
    · rfl
theorem strip_mp (d : D) : strip (mp φ d) = mp φ (strip d) := by
  rw [strip_kn, strip_kn, knOf_mp]
  cases knOf d with
  | none => rfl
  | some ds => simp [mp_tuple]
theorem viewD_mp (Γ : Gam) (v : Val) : viewD (fG φ Γ) (fV φ v) = (viewD Γ v).map (mp φ) := by
  cases v with
  | b i =>
    simp only [viewD, fV, fG_get]
    cases Γ[i]? with
    | none => rfl
    | some s =>
      cases s with
      | one f => cases f <;> simp [fS, fF, mp_list]
      | vw ds => simp [fS, mp_list]
      | _ => rfl
  | _ => rfl
theorem viewL_mp (Γ : Gam) (v : Val) : viewL (fG φ Γ) (fV φ v) = (viewL Γ v).map (mD φ) := by
  cases v with
  | b i =>
    simp only [viewL, fV, fG_get]
    cases Γ[i]? with
    | none => rfl
    | some s =>
      cases s with
      | one f => cases f with
        | fz d => cases d <;> simp [fS, fF, mp_none, mp_bool, mp_int, mp_str, mp_list, mp_tuple, mp_dict]
        | _ => simp [fS, fF]
      | _ => rfl
  | f d => cases d <;> simp [fV, viewL, mp_none, mp_bool, mp_int, mp_str, mp_list, mp_tuple, mp_dict]
  | _ => rfl
theorem viewK_mp (Γ : Gam) (v : Val) : viewK (fG φ Γ) (fV φ v) = (viewK Γ v).map (mK φ) := by
  cases v with
  | b i =>
    simp only [viewK, fV, fG_get]
    cases Γ[i]? with
    | none => rfl
    | some s =>
      cases s with
      | one f => cases f with
        | fz d => simp [fS, fF, decK_mp]
        | _ => simp [fS, fF]
      | _ => rfl
  | f d => simp [fV, viewK, decK_mp]
  | _ => rfl
theorem viewT_mp (Γ : Gam) (v : Val) : viewT (fG φ Γ) (fV φ v) = (viewT Γ v).map (mT φ) := by
  cases v with
  | b i =>
    simp only [viewT, fV, fG_get]
    cases Γ[i]? with
    | none => rfl
    | some s =>
      cases s with
      | one f => cases f with
        | fz d => simp [fS, fF, decT_mp]
        | _ => simp [fS, fF]
      | _ => rfl
  | f d => simp [fV, viewT, decT_mp]
  | _ => rfl
theorem viewI_mp (Γ : Gam) (v : Val) : viewI (fG φ Γ) (fV φ v) = (viewI Γ v).map (mI2 φ) := by
  cases v with
  | b i =>
    simp only [viewI, fV, fG_get]
    cases Γ[i]? with
    | none => rfl
    | some s =>
      cases s with
      | one f => cases f with
        | fz d => simp [fS, fF, decI_mp]
        | _ => simp [fS, fF]
      | _ => rfl
  | f d => simp [fV, viewI, decI_mp]
  | _ => rfl
theorem viewC_mp (Γ : Gam) (v : Val) : viewC (fG φ Γ) (fV φ v) = viewC Γ v := by
  unfold viewC
  rw [viewI_mp]
  cases viewI Γ v with
  | some p => simp [mI2, mI]
  | none =>
    cases v with
    | b i =>
      simp only [fV, fG_get, Option.map_none]
      cases Γ[i]? with
      | none => rfl
      | some s => cases s <;> rfl
    | _ => rfl
theorem tyV_mp (Γ : Gam) (v : Val) : tyV (fG φ Γ) (fV φ v) = tyV Γ v := by
  cases v with
  | b i =>
    simp only [tyV, fV, fG_get]
    cases Γ[i]? with
    | none => rfl
    | some s =>
      cases s with
      | one f => cases f with
        | fz d => simp [fS, fF, tyD_mp]
        | _ => simp [fS, fF]
      | _ => rfl
  | f d => simp [fV, tyV, tyD_mp]
  | _ => rfl
/-! ### look, put -/
theorem mpk_inj (M : Mono φ) (a b : Key) : (mpk φ a = mpk φ b) ↔ a = b := by
  cases a <;> cases b <;> simp [mpk]
  exact ⟨M.inj _ _, congrArg φ⟩
theorem mpkL_inj (M : Mono φ) (a b : List Key) : (a.map (mpk φ) = b.map (mpk φ)) ↔ a = b := by
  constructor
  · intro h
    exact (List.map_inj_right (fun x y h => (mpk_inj M x y).mp h)).mp h
  · exact congrArg _
theorem look_mp {κ κ' α β : Type} [DecidableEq κ] [DecidableEq κ'] (q : κ → κ') (f : α → β) (hq : ∀ a b, q a = q b ↔ a = b) (k : κ) : ∀ l : List (κ × α), look (l.map fun p => (q p.1, f p.2)) (q k) = (look l k).map f
  | [] => rfl
  | p :: r => by
    simp only [List.map_cons, look]
    by_cases h : p.1 = k
    · rw [if_pos h, if_pos ((hq _ _).mpr h)]; rfl
    · rw [if_neg h, if_neg (fun h2 => h ((hq _ _).mp h2)), look_mp q f hq k r]
theorem lookK_mp (M : Mono φ) (l : List (Key × D)) (k : Key) : look (mK φ l) (mpk φ k) = (look l k).map (mp φ) := look_mp (mpk φ) (mp φ) (mpk_inj M) k l
theorem lookT_mp (M : Mono φ) (l : List (List Key × D)) (k : List Key) : look (mT φ l) (k.map (mpk φ)) = (look l k).map (mp φ) := look_mp (List.map (mpk φ)) (mp φ) (mpkL_inj M) k l
theorem lookI_mp (l : List (Str × D)) (k : Str) : look (mI φ l) k = (look l k).map (mp φ) := look_mp id (mp φ) (fun _ _ => Iff.rfl) k l
theorem put_mp {κ κ' α β : Type} [DecidableEq κ] [DecidableEq κ'] (q : κ → κ') (f : α → β) (hq : ∀ a b, q a = q b ↔ a = b) (k : κ) (v : α) (l : List (κ × α)) : put (l.map fun p => (q p.1, f p.2)) (q k) (f v) = (put l k v).map fun p => (q p.1, f p.2) := by
  unfold put
  have h1 : ((l.map fun p => (q p.1, f p.2)).any fun kv => decide (kv.1 = q k)) = l.any fun kv => decide (kv.1 = k) := by
    rw [List.any_map]
    congr 1
    funext p
    simp [hq]
  rw [h1]
  split
  · simp only [List.map_map]
    congr 1
    funext p
    simp only [Function.comp, hq]
    split <;> rfl
  · simp
theorem putK_mp (M : Mono φ) (l : List (Key × D)) (k : Key) (v : D) : put (mK φ l) (mpk φ k) (mp φ v) = mK φ (put l k v) := put_mp (mpk φ) (mp φ) (mpk_inj M) k v l
theorem putT_mp (M : Mono φ) (l : List (List Key × D)) (k : List Key) (v : D) : put (mT φ l) (k.map (mpk φ)) (mp φ v) = mT φ (put l k v) := put_mp (List.map (mpk φ)) (mp φ) (mpkL_inj M) k v l
end DL
end

section
set_option Elab.async false
set_option linter.all false
set_option maxRecDepth 100000
set_option autoImplicit false
set_option maxHeartbeats 1000000
/-! EQ3: the leaf operations with other names. -/
namespace DL
open PySem PySem.Spec PyProof.Rows L2
class Nm (φ : Str → Str) : Prop where
  m : Mono φ
class Sb (φ : Str → Str) (f' f : Gam → Val → Val → R Val) : Prop where
  o : ∀ Γ a b, LeR φ (fV φ) (f' Γ a b) (f (fG φ Γ) (fV φ a) (fV φ b))
class Sc (φ : Str → Str) (f' f : Gam → List Val → R Val) : Prop where
  o : ∀ Γ vs, LeR φ (fV φ) (f' Γ vs) (f (fG φ Γ) (vs.map (fV φ)))
class Sg (φ : Str → Str) (g' g : List Slot → R Val) : Prop where
  o : ∀ As, LeR φ (fV φ) (g' As) (g (fG φ As))
class St (φ : Str → Str) (tg : D → Gam → Option Gam) : Prop where
  o : ∀ d Γ, tg (mp φ d) (fG φ Γ) = (tg d Γ).map (fG φ)
class Sts (φ : Str → Str) (tg : List D → Gam → Option Gam) : Prop where
  o : ∀ d Γ, tg (mD φ d) (fG φ Γ) = (tg d Γ).map (fG φ)
class Sm (φ : Str → Str) {α : Type} (g : α → α) (m' m : Gam → R α) : Prop where
  o : ∀ Γ, LeR φ g (m' Γ) (m (fG φ Γ))
class Ss (φ : Str → Str) (m' m : Gam → RS) : Prop where
  o : ∀ Γ, LeS φ (m' Γ) (m (fG φ Γ))
variable {φ : Str → Str}
/-! ### ints -/
theorem intF_mp (C : Int → Int → Bool) (g : Int → Int → D) (hg : ∀ i j, mp φ (g i j) = g i j) (Γ : Gam) (a b : Val) : intF C g (fG φ Γ) (fV φ a) (fV φ b) = rm φ (fV φ) (intF C g Γ a b) := by
  cases a with
  | f d => cases d with
    | int i => cases b with
      | f e => cases e with
        | int j =>
          simp only [mp_none, mp_bool, mp_int, mp_str, mp_list, mp_tuple, mp_dict, Option.map_some, Option.map_none, fV]
          simp only [intF_ii]
          split
          · simp [rm, fV, hg]
          · rfl
        | _ => simp only [mp_none, mp_bool, mp_int, mp_str, mp_list, mp_tuple, mp_dict, Option.map_some, Option.map_none, fV]; rfl
      | _ => rfl
    | _ => simp only [mp_none, mp_bool, mp_int, mp_str, mp_list, mp_tuple, mp_dict, Option.map_some, Option.map_none, fV]; rfl
  | _ => rfl
instance subF_s : Sb φ subF subF := ⟨fun Γ a b => .of (intF_mp _ _ (fun _ _ => mp_int _) Γ a b)⟩
instance andF_s : Sb φ andF andF := ⟨fun Γ a b => .of (intF_mp _ _ (fun _ _ => mp_int _) Γ a b)⟩
instance orF_s : Sb φ orF orF := ⟨fun Γ a b => .of (intF_mp _ _ (fun _ _ => mp_int _) Γ a b)⟩
instance xorF_s : Sb φ xorF xorF := ⟨fun Γ a b => .of (intF_mp _ _ (fun _ _ => mp_int _) Γ a b)⟩
instance leF_s : Sb φ leF leF := ⟨fun Γ a b => .of (intF_mp _ _ (fun _ _ => mp_bool _) Γ a b)⟩
instance gtF_s : Sb φ gtF gtF := ⟨fun Γ a b => .of (intF_mp _ _ (fun _ _ => mp_bool _) Γ a b)⟩
instance geF_s : Sb φ geF geF := ⟨fun Γ a b => .of (intF_mp _ _ (fun _ _ => mp_bool _) Γ a b)⟩
instance fdivF_s : Sb φ fdivF fdivF := ⟨fun Γ a b => .of (intF_mp _ _ (fun _ _ => mp_int _) Γ a b)⟩
instance modF_s : Sb φ modF modF := ⟨fun Γ a b => .of (intF_mp _ _ (fun _ _ => mp_int _) Γ a b)⟩
instance powF_s : Sb φ powF powF := ⟨fun Γ a b => .of (intF_mp _ _ (fun _ _ => mp_int _) Γ a b)⟩
instance shlF_s : Sb φ shlF shlF := ⟨fun Γ a b => .of (intF_mp _ _ (fun _ _ => mp_int _) Γ a b)⟩
instance shrF_s : Sb φ shrF shrF := ⟨fun Γ a b => .of (intF_mp _ _ (fun _ _ => mp_int _) Γ a b)⟩
/-! ### +, * -/
def isS : Val → Bool
  | .f (.str _) => true
  | _ => false
def addT (Γ : Gam) (a b : Val) : R Val := if isS a = true then .stuck else addF Γ a b
def mulT (Γ : Gam) (a b : Val) : R Val := if isS a = true then .stuck else mulF Γ a b
def catL (Γ : Gam) (a b : Val) : R Val := match viewL Γ a, viewL Γ b with
    | some xs, some ys => if xs.length + ys.length ≤ sizeLine then .ok (.n (.ol (xs ++ ys))) Γ else .stuck
    | _, _ => .stuck
theorem catL_mp (Γ : Gam) (a b : Val) : catL (fG φ Γ) (fV φ a) (fV φ b) = rm φ (fV φ) (catL Γ a b) := by
  unfold catL
  rw [viewL_mp, viewL_mp]
  cases viewL Γ a <;> cases viewL Γ b <;> simp [rm, mD]
  split <;> simp [rm, fV, fF, mD]
def spc : Val → Val → Nat
  | .f (.int _), .f (.int _) => 1
  | .f (.str _), .f (.str _) => 2
  | .f (.tuple _), .f (.tuple _) => 3
  | _, _ => 0
theorem spc_mp (a b : Val) : spc (fV φ a) (fV φ b) = spc a b := by
  rcases a with d | i | f | ⟨c, fds⟩ | ⟨n, d⟩ <;> rcases b with e | j | f2 | ⟨c2, fds2⟩ | ⟨n2, d2⟩ <;> try rfl
  all_goals first | (cases d <;> cases e <;> simp only [mp_none, mp_bool, mp_int, mp_str, mp_list, mp_tuple, mp_dict, Option.map_some, Option.map_none, fV] <;> rfl) | (cases d <;> simp only [mp_none, mp_bool, mp_int, mp_str, mp_list, mp_tuple, mp_dict, Option.map_some, Option.map_none, fV] <;> rfl) | (cases e <;> simp only [mp_none, mp_bool, mp_int, mp_str, mp_list, mp_tuple, mp_dict, Option.map_some, Option.map_none, fV] <;> rfl)
theorem addF_cat (Γ : Gam) (a b : Val) (h : spc a b = 0) : addF Γ a b = catL Γ a b := by
  unfold addF
  split <;> first | (simp [spc] at h; done) | rfl
theorem spc1 {a b : Val} (h : spc a b = 1) : ∃ i j, a = .f (.int i) ∧ b = .f (.int j) := by
  unfold spc at h
  split at h <;> simp_all
theorem spc3 {a b : Val} (h : spc a b = 3) : ∃ i j, a = .f (.tuple i) ∧ b = .f (.tuple j) := by
  unfold spc at h
  split at h <;> simp_all
theorem spc2 {a b : Val} (h : spc a b = 2) : isS a = true := by
  unfold spc at h
  split at h <;> simp_all [isS]
theorem spc_le (a b : Val) : spc a b = 0 ∨ spc a b = 1 ∨ spc a b = 2 ∨ spc a b = 3 := by
  unfold spc
  split <;> simp
instance addT_s : Sb φ addT addF := ⟨fun Γ a b => by
  unfold addT
  split
  · exact .stuck
  · rename_i hs
    refine .of ?_
    rcases spc_le a b with h | h | h | h
    · rw [addF_cat Γ a b h, addF_cat _ _ _ ((spc_mp a b).trans h)]
      exact catL_mp Γ a b
    · obtain ⟨i, j, rfl, rfl⟩ := spc1 h
      simp only [mp_none, mp_bool, mp_int, mp_str, mp_list, mp_tuple, mp_dict, Option.map_some, Option.map_none, fV]
      simp [addF, rm, fV, mp_int]
    · exact absurd (spc2 h) hs
    · obtain ⟨i, j, rfl, rfl⟩ := spc3 h
      simp only [mp_none, mp_bool, mp_int, mp_str, mp_list, mp_tuple, mp_dict, Option.map_some, Option.map_none, fV]
      simp only [addF, List.length_map]
      split <;> simp [rm, fV, mp_tuple]⟩
def repL (Γ : Gam) (a : Val) (k : Int) : R Val := match viewL Γ a with
    | some xs => if -(2 ^ 63) ≤ k ∧ k < 2 ^ 63 ∧ xs.length * k.toNat ≤ sizeLine then .ok (.n (.ol (List.replicate k.toNat xs).flatten)) Γ else .stuck
    | none => .stuck
theorem repL_mp (Γ : Gam) (a : Val) (k : Int) : repL (fG φ Γ) (fV φ a) k = rm φ (fV φ) (repL Γ a k) := by
  unfold repL
  rw [viewL_mp]
  cases viewL Γ a <;> simp [rm, mD]
  split <;> simp [rm, fV, fF, mD]
def sp2 : Val → Val → Nat
  | .f (.int _), .f (.int _) => 1
  | .f (.str _), .f (.int _) => 2
  | _, .f (.int _) => 0
  | _, _ => 3
theorem sp2_mp (a b : Val) : sp2 (fV φ a) (fV φ b) = sp2 a b := by
  rcases a with d | i | f | ⟨c, fds⟩ | ⟨n, d⟩ <;> rcases b with e | j | f2 | ⟨c2, fds2⟩ | ⟨n2, d2⟩ <;> try rfl
  all_goals first | (cases d <;> cases e <;> simp only [mp_none, mp_bool, mp_int, mp_str, mp_list, mp_tuple, mp_dict, Option.map_some, Option.map_none, fV] <;> rfl) | (cases d <;> simp only [mp_none, mp_bool, mp_int, mp_str, mp_list, mp_tuple, mp_dict, Option.map_some, Option.map_none, fV] <;> rfl) | (cases e <;> simp only [mp_none, mp_bool, mp_int, mp_str, mp_list, mp_tuple, mp_dict, Option.map_some, Option.map_none, fV] <;> rfl)
theorem sp2_0 {a b : Val} (h : sp2 a b = 0) : ∃ j, b = .f (.int j) ∧ ∀ Γ, mulF Γ a b = repL Γ a j := by
  unfold sp2 at h
  split at h <;> simp_all
  intro Γ
  unfold mulF
  split <;> first | rfl | (simp_all; done) | (rename_i h9 _ _; injection h9 with h9; injection h9 with h9; subst h9; rfl)
theorem sp2_3 {a b : Val} (h : sp2 a b = 3) : ∀ Γ, mulF Γ a b = .stuck := by
  unfold sp2 at h
  split at h <;> simp_all
  intro Γ
  unfold mulF
  split <;> simp_all
theorem sp2_1 {a b : Val} (h : sp2 a b = 1) : ∃ i j, a = .f (.int i) ∧ b = .f (.int j) := by
  unfold sp2 at h
  split at h <;> simp_all
theorem sp2_2 {a b : Val} (h : sp2 a b = 2) : isS a = true := by
  unfold sp2 at h
  split at h <;> simp_all [isS]
theorem sp2_le (a b : Val) : sp2 a b = 0 ∨ sp2 a b = 1 ∨ sp2 a b = 2 ∨ sp2 a b = 3 := by
  unfold sp2
  split <;> simp
instance mulT_s : Sb φ mulT mulF := ⟨fun Γ a b => by
  unfold mulT
  split
  · exact .stuck
  · rename_i hs
    refine .of ?_
    rcases sp2_le a b with h | h | h | h
    · obtain ⟨j, rfl, h1⟩ := sp2_0 h
      have h2 := (sp2_mp (φ := φ) a (.f (.int j))).trans h
      obtain ⟨j2, h3, h4⟩ := sp2_0 h2
      rw [h1, h4]
      have : j2 = j := by
        simp only [fV, mp_int] at h3
        injection h3 with h3
        injection h3 with h3
        exact h3.symm
      rw [this]
      exact repL_mp Γ a j
    · obtain ⟨i, j, rfl, rfl⟩ := sp2_1 h
      simp only [mp_none, mp_bool, mp_int, mp_str, mp_list, mp_tuple, mp_dict, Option.map_some, Option.map_none, fV]
      simp only [mulF]
      split <;> simp [rm, fV, mp_int]
    · exact absurd (sp2_2 h) hs
    · rw [sp2_3 h, sp2_3 ((sp2_mp (φ := φ) a b).trans h)]
      rfl⟩
/-! ### ==, <, in, is -/
instance eqF_s [N : Nm φ] (neg : Bool) : Sb φ (eqF neg) (eqF neg) := ⟨fun Γ a b => .of (by
  unfold eqF
  rw [viewD_mp, viewD_mp]
  cases viewD Γ a <;> cases viewD Γ b <;> simp only [Option.map_some, Option.map_none, okE_mp, eqv_mp N.m] <;> try rfl
  split
  · simp [rm, fV, mp_bool]
  · rfl)⟩
instance ltF_s [N : Nm φ] : Sb φ ltF ltF := ⟨fun Γ a b => .of (by
  unfold ltF
  rw [viewD_mp, viewD_mp]
  cases viewD Γ a <;> cases viewD Γ b <;> simp only [Option.map_some, Option.map_none, okL_mp, dataLt_mp N.m] <;> try rfl
  split
  · simp [rm, fV, mp_bool]
  · rfl)⟩
def inB (neg : Bool) (Γ : Gam) (a b : Val) : R Val := match viewK Γ b with
    | some kds => match a with
      | .f d => match keyOf d with
        | some k => .ok (.f (.bool (ng neg (look kds k).isSome))) Γ
        | none => .stuck
      | _ => .stuck
    | none => match viewT Γ b with
      | some kds => match a with
        | .f d => match keyTOf d with
          | some k => .ok (.f (.bool (ng neg (look kds k).isSome))) Γ
          | none => .stuck
        | _ => .stuck
      | none => .stuck
theorem inB_mp (M : Mono φ) (neg : Bool) (Γ : Gam) (a b : Val) : inB neg (fG φ Γ) (fV φ a) (fV φ b) = rm φ (fV φ) (inB neg Γ a b) := by
  unfold inB
  rw [viewK_mp, viewT_mp]
  cases viewK Γ b with
  | some kds => cases a with
    | f d =>
      simp only [Option.map_some, fV, keyOf_mp]
      cases keyOf d with
      | none => rfl
      | some k => simp [lookK_mp M, rm, fV, mp_bool]
    | _ => rfl
  | none =>
    cases viewT Γ b with
    | some kds => cases a with
      | f d =>
        simp only [Option.map_some, Option.map_none, fV, keyTOf_mp]
        cases keyTOf d with
        | none => rfl
        | some k => simp [lookT_mp M, rm, fV, mp_bool]
      | _ => rfl
    | none => rfl
def strD : Option D → Bool
  | some (.str _) => true
  | _ => false
theorem strD_mp (o : Option D) : strD (o.map (mp φ)) = strD o := by
  cases o with
  | none => rfl
  | some d => cases d <;> simp only [mp_none, mp_bool, mp_int, mp_str, mp_list, mp_tuple, mp_dict, Option.map_some, Option.map_none, fV] <;> rfl
def inT (neg : Bool) (Γ : Gam) (a b : Val) : R Val := if strD (viewD Γ b) = true then .stuck else inF neg Γ a b
instance inT_s [N : Nm φ] (neg : Bool) : Sb φ (inT neg) (inF neg) := ⟨fun Γ a b => by
  unfold inT
  split
  · exact .stuck
  · rename_i hs
    refine .of ?_
    have q := inB_mp N.m neg Γ a b
    cases hb : viewD Γ b with
    | none =>
      have h1 : inF neg Γ a b = inB neg Γ a b := by unfold inF; rw [hb]; rfl
      have h2 : inF neg (fG φ Γ) (fV φ a) (fV φ b) = inB neg (fG φ Γ) (fV φ a) (fV φ b) := by unfold inF; rw [viewD_mp, hb]; rfl
      rw [h1, h2, q]
    | some d =>
      cases d with
      | list ds =>
        unfold inF
        simp only [viewD_mp, hb, Option.map_some, mp_list]
        cases viewD Γ a with
        | none => rfl
        | some e =>
          simp only [Option.map_some, okI_mp, any_mp N.m]
          split
          · simp [rm, fV, mp_bool]
          · rfl
      | tuple ds =>
        unfold inF
        simp only [viewD_mp, hb, Option.map_some, mp_tuple]
        cases viewD Γ a with
        | none => rfl
        | some e =>
          simp only [Option.map_some, okI_mp, any_mp N.m]
          split
          · simp [rm, fV, mp_bool]
          · rfl
      | str z =>
        rw [hb] at hs
        exact absurd rfl hs
      | _ =>
        have h1 : inF neg Γ a b = inB neg Γ a b := by unfold inF; rw [hb]; rfl
        have h2 : inF neg (fG φ Γ) (fV φ a) (fV φ b) = inB neg (fG φ Γ) (fV φ a) (fV φ b) := by unfold inF; rw [viewD_mp, hb]; simp only [mp_none, mp_bool, mp_int, mp_str, mp_list, mp_tuple, mp_dict, Option.map_some, Option.map_none, fV]; rfl
        rw [h1, h2, q]⟩
theorem noneV_mp (a : Val) : noneV (fV φ a) = noneV a := by
  cases a with
  | f d => cases d <;> simp only [mp_none, mp_bool, mp_int, mp_str, mp_list, mp_tuple, mp_dict, Option.map_some, Option.map_none, fV] <;> rfl
  | _ => rfl
theorem isF_mp (neg : Bool) (Γ : Gam) (a b : Val) : isF neg (fG φ Γ) (fV φ a) (fV φ b) = rm φ (fV φ) (isF neg Γ a b) := by
  have hn := noneV_mp (φ := φ) a
  cases b with
  | f e => cases e with
    | none =>
      show isF neg (fG φ Γ) (fV φ a) (.f (mp φ .none)) = _
      rw [mp_none]
      show R.ok (Val.f (.bool (ng neg (noneV (fV φ a))))) _ = _
      rw [noneV_mp]
      simp [isF, rm, fV, mp_bool]
    | bool y => cases a with
      | f d => cases d <;> simp only [mp_none, mp_bool, mp_int, mp_str, mp_list, mp_tuple, mp_dict, Option.map_some, Option.map_none, fV] <;> simp [isF, rm, fV, mp_bool]
      | _ => simp only [mp_none, mp_bool, mp_int, mp_str, mp_list, mp_tuple, mp_dict, Option.map_some, Option.map_none, fV]; rfl
    | _ => simp only [mp_none, mp_bool, mp_int, mp_str, mp_list, mp_tuple, mp_dict, Option.map_some, Option.map_none, fV]; rfl
  | _ => rfl
instance isF_s (neg : Bool) : Sb φ (isF neg) (isF neg) := ⟨fun Γ a b => .of (isF_mp neg Γ a b)⟩
instance isF'_s (neg : Bool) : Sb φ (isF' neg) (isF' neg) := ⟨fun Γ a b => .of (by
  unfold isF'
  cases a with
  | b i => rfl
  | f d => exact isF_mp neg Γ (.f d) b
  | n d => exact isF_mp neg Γ (.n d) b
  | nc c d => exact isF_mp neg Γ (.nc c d) b
  | nb n d => exact isF_mp neg Γ (.nb n d) b)⟩
/-! ### [ ] -/
theorem atI_map {α β : Type} (f : α → β) (l : List α) (i : Int) : atI (l.map f) i = (atI l i).map f := by
  unfold atI
  rw [List.length_map]
  cases ixN l.length i <;> simp
def ixB (Γ : Gam) (a b : Val) : R Val := match viewK Γ a with
    | some kds => match b with
      | .f d => match keyOf d with
        | some k => match look kds k with
          | some d' => .ok (.f d') Γ
          | none => .stuck
        | none => .stuck
      | _ => .stuck
    | none => match viewT Γ a with
      | some kds => match b with
        | .f d => match keyTOf d with
          | some k => match look kds k with
            | some d' => .ok (.f d') Γ
            | none => .stuck
          | none => .stuck
        | _ => .stuck
      | none => .stuck
theorem ixB_mp (M : Mono φ) (Γ : Gam) (a b : Val) : ixB (fG φ Γ) (fV φ a) (fV φ b) = rm φ (fV φ) (ixB Γ a b) := by
  unfold ixB
  rw [viewK_mp, viewT_mp]
  cases viewK Γ a with
  | some kds => cases b with
    | f d =>
      simp only [Option.map_some, fV, keyOf_mp]
      cases keyOf d with
      | none => rfl
      | some k =>
        simp only [Option.map_some, lookK_mp M]
        cases look kds k <;> rfl
    | _ => rfl
  | none =>
    cases viewT Γ a with
    | some kds => cases b with
      | f d =>
        simp only [Option.map_some, Option.map_none, fV, keyTOf_mp]
        cases keyTOf d with
        | none => rfl
        | some k =>
          simp only [Option.map_some, lookT_mp M]
          cases look kds k <;> rfl
      | _ => rfl
    | none => rfl
def ixT (Γ : Gam) (a b : Val) : R Val := if strD (viewD Γ a) = true then .stuck else ixF Γ a b
theorem ixAt_mp (Γ : Gam) (ds : List D) (b : Val) : (match fV φ b with
    | .f (.int i) => match atI (mD φ ds) i with
      | some d => R.ok (Val.f d) (fG φ Γ)
      | none => .stuck
    | _ => .stuck) = rm φ (fV φ) (match b with
    | .f (.int i) => match atI ds i with
      | some d => .ok (.f d) Γ
      | none => .stuck
    | _ => .stuck) := by
  cases b with
  | f e => cases e with
    | int i =>
      simp only [mp_none, mp_bool, mp_int, mp_str, mp_list, mp_tuple, mp_dict, Option.map_some, Option.map_none, fV]
      simp only [mD, atI_map]
      cases atI ds i <;> rfl
    | _ => simp only [mp_none, mp_bool, mp_int, mp_str, mp_list, mp_tuple, mp_dict, Option.map_some, Option.map_none, fV]; rfl
  | _ => rfl
instance ixT_s [N : Nm φ] : Sb φ ixT ixF := ⟨fun Γ a b => by
  unfold ixT
  split
  · exact .stuck
  · rename_i hs
    refine .of ?_
    have q := ixB_mp N.m Γ a b
    cases hb : viewD Γ a with
    | none =>
      have h1 : ixF Γ a b = ixB Γ a b := by unfold ixF; rw [hb]; rfl
      have h2 : ixF (fG φ Γ) (fV φ a) (fV φ b) = ixB (fG φ Γ) (fV φ a) (fV φ b) := by unfold ixF; rw [viewD_mp, hb]; rfl
      rw [h1, h2, q]
    | some d =>
      cases d with
      | list ds =>
        unfold ixF
        simp only [viewD_mp, hb, Option.map_some, mp_list]
        exact ixAt_mp Γ ds b
      | tuple ds =>
        unfold ixF
        simp only [viewD_mp, hb, Option.map_some, mp_tuple]
        exact ixAt_mp Γ ds b
      | str z =>
        rw [hb] at hs
        exact absurd rfl hs
      | _ =>
        have h1 : ixF Γ a b = ixB Γ a b := by unfold ixF; rw [hb]; rfl
        have h2 : ixF (fG φ Γ) (fV φ a) (fV φ b) = ixB (fG φ Γ) (fV φ a) (fV φ b) := by unfold ixF; rw [viewD_mp, hb]; simp only [mp_none, mp_bool, mp_int, mp_str, mp_list, mp_tuple, mp_dict, Option.map_some, Option.map_none, fV]; rfl
        rw [h1, h2, q]⟩
theorem cutD_mp (ds : List D) (lo hi : Option Int) : cutD (mD φ ds) lo hi = mD φ (cutD ds lo hi) := by
  simp [cutD, mD, List.map_take, List.map_drop]
def slT (Γ : Gam) (a : Val) (lo hi : Option Int) : R Val := if strD (viewD Γ a) = true then .stuck else slF Γ a lo hi
theorem slT_mp (Γ : Gam) (a : Val) (lo hi : Option Int) : LeR φ (fV φ) (slT Γ a lo hi) (slF (fG φ Γ) (fV φ a) lo hi) := by
  unfold slT
  split
  · exact .stuck
  · rename_i hs
    refine .of ?_
    unfold slF
    rw [viewD_mp]
    cases hb : viewD Γ a with
    | none => rfl
    | some d =>
      cases d with
      | str z =>
        rw [hb] at hs
        exact absurd rfl hs
      | _ => simp only [mp_none, mp_bool, mp_int, mp_str, mp_list, mp_tuple, mp_dict, Option.map_some, Option.map_none, fV]; simp [cutD_mp, rm, fV, fF, mp_tuple]
/-! ### functions -/
theorem intsOf_mp : ∀ ds : List D, intsOf (mD φ ds) = intsOf ds
  | [] => rfl
  | d :: r => by cases d <;> simp only [mD, List.map_cons] <;> simp only [mp_none, mp_bool, mp_int, mp_str, mp_list, mp_tuple, mp_dict, Option.map_some, Option.map_none, fV] <;> simp only [intsOf] <;> first | rfl | (rw [intsOf_mp r])
theorem boolsOf_mp : ∀ ds : List D, boolsOf (mD φ ds) = boolsOf ds
  | [] => rfl
  | d :: r => by cases d <;> simp only [mD, List.map_cons] <;> simp only [mp_none, mp_bool, mp_int, mp_str, mp_list, mp_tuple, mp_dict, Option.map_some, Option.map_none, fV] <;> simp only [boolsOf] <;> first | rfl | (rw [boolsOf_mp r])
def lenT (Γ : Gam) (vs : List Val) : R Val := match vs with
  | [v] => if strD (viewD Γ v) = true then .stuck else lenF Γ [v]
  | _ => .stuck
instance lenT_s : Sc φ lenT lenF := ⟨fun Γ vs => by
  unfold lenT
  split
  · rename_i v
    split
    · exact .stuck
    · rename_i hs
      refine .of ?_
      simp only [List.map_cons, List.map_nil, lenF, viewD_mp]
      cases hb : viewD Γ v with
      | none => rfl
      | some d =>
        cases d with
        | str z =>
          rw [hb] at hs
          exact absurd rfl hs
        | _ => simp only [mp_none, mp_bool, mp_int, mp_str, mp_list, mp_tuple, mp_dict, Option.map_some, Option.map_none, fV]; simp [rm, fV, mp_int]
  · exact .stuck⟩
theorem one_mp (f : Gam → List Val → R Val) (f1 : Gam → Val → R Val) (hf : ∀ Γ vs, f Γ vs = match vs with
    | [v] => f1 Γ v
    | _ => .stuck) (h : ∀ Γ v, f1 (fG φ Γ) (fV φ v) = rm φ (fV φ) (f1 Γ v)) : Sc φ f f := ⟨fun Γ vs => .of (by
  rw [hf, hf]
  cases vs with
  | nil => rfl
  | cons v r => cases r with
    | nil => exact h Γ v
    | cons _ _ => rfl)⟩
def onV (f : Gam → D → R Val) (Γ : Gam) (v : Val) : R Val := match viewD Γ v with
  | some d => f Γ d
  | none => .stuck
theorem onV_mp {f : Gam → D → R Val} (h : ∀ Γ d, f (fG φ Γ) (mp φ d) = rm φ (fV φ) (f Γ d)) (Γ : Gam) (v : Val) : onV f (fG φ Γ) (fV φ v) = rm φ (fV φ) (onV f Γ v) := by
  unfold onV
  rw [viewD_mp]
  cases viewD Γ v with
  | none => rfl
  | some d => exact h Γ d
instance sumF_s : Sc φ sumF sumF := one_mp _ (onV fun Γ d => match d with
    | .list ds => match intsOf ds with
      | some ns => .ok (.f (.int ns.sum)) Γ
      | none => .stuck
    | _ => .stuck) (fun Γ vs => by
  rcases vs with _ | ⟨v, _ | ⟨u, r⟩⟩
  · rfl
  · simp only [sumF, onV]
    cases viewD Γ v with
    | none => rfl
    | some d => cases d <;> rfl
  · rfl) (onV_mp fun Γ d => by
  cases d with
  | list ds =>
    simp only [mp_list, intsOf_mp]
    cases intsOf ds <;> simp [rm, fV, mp_int]
  | _ => simp only [mp_none, mp_bool, mp_int, mp_str, mp_list, mp_tuple, mp_dict, Option.map_some, Option.map_none, fV]; rfl)
instance maxF_s : Sc φ maxF maxF := one_mp _ (onV fun Γ d => match d with
    | .list ds => match intsOf ds with
      | some (n :: ns) => .ok (.f (.int (maxL n ns))) Γ
      | _ => .stuck
    | _ => .stuck) (fun Γ vs => by
  rcases vs with _ | ⟨v, _ | ⟨u, r⟩⟩
  · rfl
  · simp only [maxF, onV]
    cases viewD Γ v with
    | none => rfl
    | some d => cases d <;> rfl
  · rfl) (onV_mp fun Γ d => by
  cases d with
  | list ds =>
    simp only [mp_list, intsOf_mp]
    cases intsOf ds with
    | none => rfl
    | some l => cases l <;> simp [rm, fV, mp_int]
  | _ => simp only [mp_none, mp_bool, mp_int, mp_str, mp_list, mp_tuple, mp_dict, Option.map_some, Option.map_none, fV]; rfl)
instance allF_s : Sc φ allF allF := one_mp _ (onV fun Γ d => match d with
    | .list ds => match boolsOf ds with
      | some bs => .ok (.f (.bool (bs.all id))) Γ
      | none => .stuck
    | _ => .stuck) (fun Γ vs => by
  rcases vs with _ | ⟨v, _ | ⟨u, r⟩⟩
  · rfl
  · simp only [allF, onV]
    cases viewD Γ v with
    | none => rfl
    | some d => cases d <;> rfl
  · rfl) (onV_mp fun Γ d => by
  cases d with
  | list ds =>
    simp only [mp_list, boolsOf_mp]
    cases boolsOf ds <;> simp [rm, fV, mp_bool]
  | _ => simp only [mp_none, mp_bool, mp_int, mp_str, mp_list, mp_tuple, mp_dict, Option.map_some, Option.map_none, fV]; rfl)
instance anyF_s : Sc φ anyF anyF := one_mp _ (onV fun Γ d => match d with
    | .list ds => match boolsOf ds with
      | some bs => .ok (.f (.bool (bs.any id))) Γ
      | none => .stuck
    | _ => .stuck) (fun Γ vs => by
  rcases vs with _ | ⟨v, _ | ⟨u, r⟩⟩
  · rfl
  · simp only [anyF, onV]
    cases viewD Γ v with
    | none => rfl
    | some d => cases d <;> rfl
  · rfl) (onV_mp fun Γ d => by
  cases d with
  | list ds =>
    simp only [mp_list, boolsOf_mp]
    cases boolsOf ds <;> simp [rm, fV, mp_bool]
  | _ => simp only [mp_none, mp_bool, mp_int, mp_str, mp_list, mp_tuple, mp_dict, Option.map_some, Option.map_none, fV]; rfl)
instance listF_s : Sc φ listF listF := one_mp _ (onV fun Γ d => match d with
    | .list ds => .ok (.n (.ol ds)) Γ
    | .tuple ds => .ok (.n (.ol ds)) Γ
    | _ => .stuck) (fun Γ vs => by
  rcases vs with _ | ⟨v, _ | ⟨u, r⟩⟩
  · rfl
  · simp only [listF, onV]
    cases viewD Γ v with
    | none => rfl
    | some d => cases d <;> rfl
  · rfl) (onV_mp fun Γ d => by
  cases d <;> simp only [mp_none, mp_bool, mp_int, mp_str, mp_list, mp_tuple, mp_dict, Option.map_some, Option.map_none, fV] <;> simp [rm, fV, fF])
instance tupF_s : Sc φ tupF tupF := one_mp _ (onV fun Γ d => match d with
    | .list ds => .ok (.f (.tuple ds)) Γ
    | .tuple ds => .ok (.f (.tuple ds)) Γ
    | _ => .stuck) (fun Γ vs => by
  rcases vs with _ | ⟨v, _ | ⟨u, r⟩⟩
  · rfl
  · simp only [tupF, onV]
    cases viewD Γ v with
    | none => rfl
    | some d => cases d <;> rfl
  · rfl) (onV_mp fun Γ d => by
  cases d <;> simp only [mp_none, mp_bool, mp_int, mp_str, mp_list, mp_tuple, mp_dict, Option.map_some, Option.map_none, fV] <;> simp [rm, fV, mp_tuple])
instance tupKF_s : Sc φ tupKF tupKF := one_mp _ (onV fun Γ d => match d with
    | .list ds => match keysOf ds with
      | none => .ok (.f (knD ds)) Γ
      | some _ => .stuck
    | _ => .stuck) (fun Γ vs => by
  rcases vs with _ | ⟨v, _ | ⟨u, r⟩⟩
  · rfl
  · simp only [tupKF, onV]
    cases viewD Γ v with
    | none => rfl
    | some d => cases d <;> rfl
  · rfl) (onV_mp fun Γ d => by
  cases d with
  | list ds =>
    simp only [mp_list, keysOf_mp]
    cases keysOf ds <;> simp [rm, fV, mp_knD]
  | _ => simp only [mp_none, mp_bool, mp_int, mp_str, mp_list, mp_tuple, mp_dict, Option.map_some, Option.map_none, fV]; rfl)
instance int1F_s : Sc φ int1F int1F := one_mp _ (fun Γ v => match v with
    | .f (.int i) => .ok (.f (.int i)) Γ
    | .f (.bool b) => .ok (.f (.int (if b then 1 else 0))) Γ
    | _ => .stuck) (fun Γ vs => by unfold int1F; split <;> first | rfl | (split <;> first | rfl | simp_all)) (fun Γ v => by
  cases v with
  | f d => cases d <;> simp only [mp_none, mp_bool, mp_int, mp_str, mp_list, mp_tuple, mp_dict, Option.map_some, Option.map_none, fV] <;> simp [rm, fV, mp_int]
  | _ => rfl)
theorem two_mp (f : Gam → List Val → R Val) (f1 : Gam → Val → Val → R Val) (hf : ∀ Γ vs, f Γ vs = match vs with
    | [v, u] => f1 Γ v u
    | _ => .stuck) (h : ∀ Γ v u, f1 (fG φ Γ) (fV φ v) (fV φ u) = rm φ (fV φ) (f1 Γ v u)) : Sc φ f f := ⟨fun Γ vs => .of (by
  rw [hf, hf]
  rcases vs with _ | ⟨v, _ | ⟨u, _ | ⟨w, r⟩⟩⟩
  · rfl
  · rfl
  · exact h Γ v u
  · rfl)⟩
theorem intF2_mp (g : Int → Int → Int) (Γ : Gam) (v u : Val) : intF yes2 (fun i j => .int (g i j)) (fG φ Γ) (fV φ v) (fV φ u) = rm φ (fV φ) (intF yes2 (fun i j => .int (g i j)) Γ v u) := intF_mp _ _ (fun _ _ => mp_int _) Γ v u
instance min2F_s : Sc φ min2F min2F := two_mp _ (intF yes2 fun i j => .int (if j < i then j else i)) (fun Γ vs => by
  unfold min2F
  split
  · rfl
  · rename_i h
    split
    · rename_i v u
      unfold intF
      split
      · exact absurd rfl (h _ _)
      · rfl
    · rfl) (intF2_mp _)
instance max2F_s : Sc φ max2F max2F := two_mp _ (intF yes2 fun i j => .int (if j > i then j else i)) (fun Γ vs => by
  unfold max2F
  split
  · rfl
  · rename_i h
    split
    · rename_i v u
      unfold intF
      split
      · exact absurd rfl (h _ _)
      · rfl
    · rfl) (intF2_mp _)
theorem zipD_mp (ds es : List D) : zipD (mD φ ds) (mD φ es) = mD φ (zipD ds es) := by
  simp only [zipD, mD, List.map_zipWith, List.zipWith_map]
  simp [mp_tuple]
instance pairsF_s : Sc φ pairsF pairsF := two_mp _ (fun Γ v u => match v, u with
    | .f (.tuple ds), .f (.tuple es) => .ok (.n (.ol (zipD ds es))) Γ
    | _, _ => .stuck) (fun Γ vs => by
  unfold pairsF
  split
  · rfl
  · rename_i h
    split
    · split
      · exact absurd rfl (h _ _)
      · rfl
    · rfl) (fun Γ v u => by
  cases v with
  | f d => cases d with
    | tuple ds => cases u with
      | f e => cases e with
        | tuple es => simp only [mp_none, mp_bool, mp_int, mp_str, mp_list, mp_tuple, mp_dict, Option.map_some, Option.map_none, fV]; simp [rm, fV, fF, zipD_mp]
        | _ => simp only [mp_none, mp_bool, mp_int, mp_str, mp_list, mp_tuple, mp_dict, Option.map_some, Option.map_none, fV]; rfl
      | _ => simp only [mp_none, mp_bool, mp_int, mp_str, mp_list, mp_tuple, mp_dict, Option.map_some, Option.map_none, fV]; rfl
    | _ => simp only [mp_none, mp_bool, mp_int, mp_str, mp_list, mp_tuple, mp_dict, Option.map_some, Option.map_none, fV]; rfl
  | _ => rfl)
end DL
end

section
set_option Elab.async false
set_option linter.all false
set_option maxRecDepth 100000
set_option autoImplicit false
set_option maxHeartbeats 1000000
/-! EQ4: the expressions with other names. -/
namespace DL
open PySem PySem.Spec PyProof.Rows L2 PySem.W
variable {φ : Str → Str}
/-! ### sort -/
theorem mgF_mp {α β : Type} (f : α → β) {le : α → α → Bool} {le' : β → β → Bool} (h : ∀ a b, le' (f a) (f b) = le a b) : ∀ (n : Nat) (xs ys : List α), mgF le' n (xs.map f) (ys.map f) = (mgF le n xs ys).map f
  | 0, xs, ys => by simp [mgF]
  | n + 1, [], ys => by simp [mgF]
  | n + 1, x :: xs, [] => by simp [mgF]
  | n + 1, x :: xs, y :: ys => by
    simp only [List.map_cons, mgF, h]
    split
    · rw [List.map_cons, ← mgF_mp f h n xs (y :: ys)]; rfl
    · rw [List.map_cons, ← mgF_mp f h n (x :: xs) ys]; rfl
theorem msF_mp {α β : Type} (f : α → β) {le : α → α → Bool} {le' : β → β → Bool} (h : ∀ a b, le' (f a) (f b) = le a b) : ∀ (n : Nat) (xs : List α), msF le' n (xs.map f) = (msF le n xs).map f
  | 0, xs => by simp [msF]
  | n + 1, [] => by simp [msF]
  | n + 1, [a] => by simp [msF]
  | n + 1, a :: b :: xs => by
    simp only [List.map_cons, msF, List.length_map]
    rw [← List.map_cons, ← List.map_cons, ← List.map_take, ← List.map_drop, msF_mp f h n, msF_mp f h n, mgF_mp f h]
theorem srt_mp {α β : Type} (f : α → β) {le : α → α → Bool} {le' : β → β → Bool} (h : ∀ a b, le' (f a) (f b) = le a b) (xs : List α) : srt le' (xs.map f) = (srt le xs).map f := by
  unfold srt
  rw [List.length_map]
  exact msF_mp f h _ _
theorem dataLe_mp (M : Mono φ) (a b : D) : dataLe false (fun d : D => d) (mp φ a) (mp φ b) = dataLe false (fun d : D => d) a b := by
  unfold dataLe sortLe
  have h := lex_mp M (PySem.W.keyToks b) (PySem.W.keyToks a)
  rw [← toks_mp, ← toks_mp] at h
  simp only [cond_false]
  exact congrArg (!·) h
theorem okS_mp (ds : List D) : okS (mD φ ds) = okS ds := by
  unfold okS
  simp only [mD, List.all_map, List.length_map, Function.comp_def, alike_mp, plain_mp, depth_mp]
  congr 4
  all_goals
    congr 1
    funext d
    cases d with
    | tuple l => cases l <;> simp [mp_tuple]
    | _ => simp [mp_none, mp_bool, mp_int, mp_str, mp_list, mp_dict]
instance sortF_s [N : Nm φ] : Sc φ sortF sortF := one_mp _ (onV fun Γ d => match d with
    | .list ds => if okS ds = true then .ok (.n (.ol (srt dLe ds))) Γ else .stuck
    | _ => .stuck) (fun Γ vs => by
  rcases vs with _ | ⟨v, _ | ⟨u, r⟩⟩
  · rfl
  · simp only [sortF, onV]
    cases viewD Γ v with
    | none => rfl
    | some d => cases d <;> rfl
  · rfl) (onV_mp fun Γ d => by
  cases d with
  | list ds =>
    simp only [mp_list]
    have e : srt dLe (mD φ ds) = mD φ (srt dLe ds) := srt_mp (mp φ) (dataLe_mp N.m) ds
    have e2 := okS_mp (φ := φ) ds
    simp only [mD] at e e2
    rw [e2, e]
    split <;> simp [rm, fV, fF]
  | _ => simp only [mp_none, mp_bool, mp_int, mp_str, mp_list, mp_tuple, mp_dict]; rfl)
/-! ### dict(pairs) -/
theorem pairT_mp (d : D) : pairT (mp φ d) = (pairT d).map fun p => (p.1.map (mpk φ), mp φ p.2) := by
  cases d with
  | tuple ds =>
    rw [mp_tuple]
    rcases ds with _ | ⟨a, _ | ⟨b, _ | ⟨c, r⟩⟩⟩ <;> try rfl
    simp only [List.map_cons, List.map_nil, pairT, keyTOf_mp]
    cases keyTOf a <;> rfl
  | _ => simp only [mp_none, mp_bool, mp_int, mp_str, mp_list, mp_dict]; rfl
theorem pairsT_mp : ∀ ds : List D, pairsT (mD φ ds) = (pairsT ds).map (mT φ)
  | [] => rfl
  | d :: r => by
    simp only [mD, List.map_cons, pairsT, pairT_mp]
    rw [pairsT_mp r]
    cases pairT d <;> cases pairsT r <;> rfl
theorem mergD_mp (M : Mono φ) : ∀ (qs acc : List (List Key × D)), mergD (mT φ qs) (mT φ acc) = mT φ (mergD qs acc)
  | [], acc => rfl
  | q :: qs, acc => by
    have h := putT_mp M acc q.1 q.2
    show mergD (mT φ qs) (put (mT φ acc) (q.1.map (mpk φ)) (mp φ q.2)) = _
    rw [h, mergD_mp M qs]
    rfl
instance dictPTF_s [N : Nm φ] : Sc φ dictPTF dictPTF := one_mp _ (onV fun Γ d => match d with
    | .list ds => match pairsT ds with
      | some qs => .ok (.n (.oT (mergD qs []))) Γ
      | none => .stuck
    | _ => .stuck) (fun Γ vs => by
  rcases vs with _ | ⟨v, _ | ⟨u, r⟩⟩
  · rfl
  · simp only [dictPTF, onV]
    cases viewD Γ v with
    | none => rfl
    | some d => cases d <;> rfl
  · rfl) (onV_mp fun Γ d => by
  cases d with
  | list ds =>
    simp only [mp_list, pairsT_mp]
    cases pairsT ds with
    | none => rfl
    | some qs =>
      have := mergD_mp N.m qs []
      simp only [Option.map_some, rm, fV, fF]
      rw [← this]
      rfl
  | _ => simp only [mp_none, mp_bool, mp_int, mp_str, mp_list, mp_tuple, mp_dict]; rfl)
/-! ### plain expressions -/
def stkM {α : Type} : Gam → R α := fun _ => .stuck
instance stkM_s {α : Type} {g : α → α} {m : Gam → R α} : Sm φ g stkM m := ⟨fun _ => .stuck⟩
instance none_s : Sm φ (fV φ) (constM .none) (constM .none) := ⟨fun Γ => .of (by simp [constM, rm, fV, mp_none])⟩
instance bool_s {b : Bool} : Sm φ (fV φ) (constM (.bool b)) (constM (.bool b)) := ⟨fun Γ => .of (by simp [constM, rm, fV, mp_bool])⟩
instance int_s {i : Int} : Sm φ (fV φ) (constM (.int i)) (constM (.int i)) := ⟨fun Γ => .of (by simp [constM, rm, fV, mp_int])⟩
instance var_s {i : Nat} : Sm φ (fV φ) (varM i) (varM i) := ⟨fun Γ => .of (by
  unfold varM
  rw [fG_get]
  cases Γ[i]? with
  | none => rfl
  | some s => cases s with
    | one f => cases f <;> rfl
    | _ => rfl)⟩
section
variable {m' m ma' ma mb' mb mc' mc : Gam → R Val} {t' t ta' ta tb' tb : Gam → R Bool} {ms' ms : Gam → R (List Val)} {md' md : Gam → R (List D)} {f' f h' h : Gam → Val → Val → R Val} {c' c : Gam → List Val → R Val} {g' g : List Slot → R Val}
variable {p' p q' q : Gam → R (Option Int)} {i' i : Gam → R Src}
instance rd_s [A : Sm φ (fV φ) m' m] : Sm φ (fV φ) (rd m') (rd m) := ⟨fun Γ => (A.o Γ).bind fun v Γ1 => .of (rdV_mp Γ1 v)⟩
instance fzL_s [A : Sm φ (fV φ) m' m] : Sm φ (mp φ) (fzL m') (fzL m) := ⟨fun Γ => (A.o Γ).bind fun v Γ1 => .of (fzV_mp Γ1 v)⟩
instance bin_s [A : Sb φ f' f] [B : Sm φ (fV φ) ma' ma] [C : Sm φ (fV φ) mb' mb] : Sm φ (fV φ) (bin f' ma' mb') (bin f ma mb) := ⟨fun Γ => (rd_s.o Γ).bind fun v Γ1 => (rd_s.o Γ1).bind fun w Γ2 => A.o Γ2 v w⟩
theorem onBool {α β : Type} {k : α → β} {X' : Bool → R α} {X : Bool → R β} (e : ∀ b, LeR φ k (X' b) (X b)) (v : Val) : LeR φ k (match v with
    | .f (.bool b) => X' b
    | _ => .stuck) (match fV φ v with
    | .f (.bool b) => X b
    | _ => .stuck) := by
  cases v with
  | f d => cases d with
    | bool b => simp only [fV, mp_bool]; exact e b
    | _ => exact .stuck
  | _ => exact .stuck
theorem onInt {α β : Type} {k : α → β} {X' : Int → R α} {X : Int → R β} (e : ∀ b, LeR φ k (X' b) (X b)) (v : Val) : LeR φ k (match v with
    | .f (.int b) => X' b
    | _ => .stuck) (match fV φ v with
    | .f (.int b) => X b
    | _ => .stuck) := by
  cases v with
  | f d => cases d with
    | int b => simp only [fV, mp_int]; exact e b
    | _ => exact .stuck
  | _ => exact .stuck
instance testM_s [A : Sm φ (fV φ) m' m] : Sm φ id (testM m') (testM m) := ⟨fun Γ => (rd_s.o Γ).bind fun v Γ1 => onBool (fun _ => .ok) v⟩
instance andT_s [A : Sm φ id ta' ta] [B : Sm φ id tb' tb] : Sm φ id (andT ta' tb') (andT ta tb) := ⟨fun Γ => (A.o Γ).bind fun c Γ1 => by
  cases c
  · exact .ok
  · exact B.o Γ1⟩
instance orT_s [A : Sm φ id ta' ta] [B : Sm φ id tb' tb] : Sm φ id (orT ta' tb') (orT ta tb) := ⟨fun Γ => (A.o Γ).bind fun c Γ1 => by
  cases c
  · exact B.o Γ1
  · exact .ok⟩
instance notT_s [A : Sm φ id ta' ta] : Sm φ id (notT ta') (notT ta) := ⟨fun Γ => (A.o Γ).bind fun c Γ1 => .ok⟩
theorem okB {b : Bool} {Γ : Gam} : LeR φ (fV φ) (.ok (.f (.bool b)) Γ) (.ok (.f (.bool b)) (fG φ Γ)) := .of (by simp [rm, fV, mp_bool])
theorem okN {b : Int} {Γ : Gam} : LeR φ (fV φ) (.ok (.f (.int b)) Γ) (.ok (.f (.int b)) (fG φ Γ)) := .of (by simp [rm, fV, mp_int])
instance andM_s [A : Sm φ (fV φ) ma' ma] [B : Sm φ (fV φ) mb' mb] : Sm φ (fV φ) (andM ma' mb') (andM ma mb) := ⟨fun Γ => (rd_s.o Γ).bind fun v Γ1 => onBool (fun c => by
  cases c
  · exact okB
  · exact B.o Γ1) v⟩
instance orM_s [A : Sm φ (fV φ) ma' ma] [B : Sm φ (fV φ) mb' mb] : Sm φ (fV φ) (orM ma' mb') (orM ma mb) := ⟨fun Γ => (rd_s.o Γ).bind fun v Γ1 => onBool (fun c => by
  cases c
  · exact B.o Γ1
  · exact okB) v⟩
instance notM_s [A : Sm φ (fV φ) ma' ma] : Sm φ (fV φ) (notM ma') (notM ma) := ⟨fun Γ => (rd_s.o Γ).bind fun v Γ1 => onBool (fun c => okB) v⟩
instance ifM_s [T : Sm φ id t' t] [A : Sm φ (fV φ) ma' ma] [B : Sm φ (fV φ) mb' mb] : Sm φ (fV φ) (ifM t' ma' mb') (ifM t ma mb) := ⟨fun Γ => (T.o Γ).bind fun c Γ1 => by
  cases c
  · exact B.o Γ1
  · exact A.o Γ1⟩
instance chainM_s [F : Sb φ f' f] [G : Sb φ h' h] [A : Sm φ (fV φ) ma' ma] [B : Sm φ (fV φ) mb' mb] [C : Sm φ (fV φ) mc' mc] : Sm φ (fV φ) (chainM f' h' ma' mb' mc') (chainM f h ma mb mc) :=
  ⟨fun Γ => (rd_s.o Γ).bind fun v Γ1 => (rd_s.o Γ1).bind fun w Γ2 => (F.o Γ2 v w).bind fun z Γ3 => onBool (fun k => by
    cases k
    · exact okB
    · exact (rd_s.o Γ3).bind fun x Γ4 => G.o Γ4 w x) z⟩
instance nilA_s : Sm φ (List.map (fV φ)) nilA nilA := ⟨fun Γ => .ok⟩
instance consA_s [A : Sm φ (fV φ) m' m] [B : Sm φ (List.map (fV φ)) ms' ms] : Sm φ (List.map (fV φ)) (consA m' ms') (consA m ms) := ⟨fun Γ => (rd_s.o Γ).bind fun v Γ1 => (B.o Γ1).bind fun vs Γ2 => .ok⟩
instance callM_s [F : Sc φ c' c] [A : Sm φ (List.map (fV φ)) ms' ms] : Sm φ (fV φ) (callM c' ms') (callM c ms) := ⟨fun Γ => (A.o Γ).bind fun vs Γ1 => F.o Γ1 vs⟩
instance nilD_s : Sm φ (mD φ) nilD nilD := ⟨fun Γ => .ok⟩
instance consD_s [A : Sm φ (fV φ) m' m] [B : Sm φ (mD φ) md' md] : Sm φ (mD φ) (consD m' md') (consD m md) := ⟨fun Γ => (fzL_s.o Γ).bind fun v Γ1 => (B.o Γ1).bind fun vs Γ2 => .ok⟩
instance starD_s [A : Sm φ (fV φ) m' m] [B : Sm φ (mD φ) md' md] : Sm φ (mD φ) (starD m' md') (starD m md) := ⟨fun Γ => (rd_s.o Γ).bind fun v Γ1 => by
  rw [viewD_mp]
  cases viewD Γ1 v with
  | none => exact .stuck
  | some d =>
    cases d with
    | list ds =>
      simp only [Option.map_some, mp_list]
      exact (B.o Γ1).bind fun es Γ2 => .of (by simp [rm])
    | tuple ds =>
      simp only [Option.map_some, mp_tuple]
      exact (B.o Γ1).bind fun es Γ2 => .of (by simp [rm])
    | _ => exact .stuck⟩
instance tupM_s [A : Sm φ (mD φ) md' md] : Sm φ (fV φ) (tupM md') (tupM md) := ⟨fun Γ => (A.o Γ).bind fun ds Γ1 => by
  simp only [mD, List.length_map]
  split
  · exact .of (by simp [rm, fV, mp_tuple])
  · exact .stuck⟩
instance lstM_s [A : Sm φ (mD φ) md' md] : Sm φ (fV φ) (lstM md') (lstM md) := ⟨fun Γ => (A.o Γ).bind fun ds Γ1 => by
  simp only [mD, List.length_map]
  split
  · exact .of (by simp [rm, fV, fF])
  · exact .stuck⟩
instance dnewK_s : Sm φ (fV φ) dnewK dnewK := ⟨fun Γ => .of rfl⟩
instance dnewT_s : Sm φ (fV φ) dnewT dnewT := ⟨fun Γ => .of rfl⟩
instance fzA_s [A : Sm φ (mD φ) md' md] : Sm φ (List.map (fV φ)) (fzA md') (fzA md) := ⟨fun Γ => (A.o Γ).bind fun ds Γ1 => .of (by
  simp only [rm, mD, List.map_map]
  rfl)⟩
instance noPart_s : Sm φ id noPart noPart := ⟨fun Γ => .ok⟩
instance partM_s [A : Sm φ (fV φ) m' m] : Sm φ id (partM m') (partM m) := ⟨fun Γ => (rd_s.o Γ).bind fun v Γ1 => onInt (fun i => .ok) v⟩
def sliceT (ma : Gam → R Val) (ml mh : Gam → R (Option Int)) : Gam → R Val := fun Γ => (rd ma Γ).bind fun a Γ1 => (ml Γ1).bind fun lo Γ2 => (mh Γ2).bind fun hi Γ3 => slT Γ3 a lo hi
instance sliceM_s [A : Sm φ (fV φ) m' m] [B : Sm φ id p' p] [C : Sm φ id q' q] : Sm φ (fV φ) (sliceT m' p' q') (sliceM m p q) := ⟨fun Γ => (rd_s.o Γ).bind fun a Γ1 => (B.o Γ1).bind fun lo Γ2 => (C.o Γ2).bind fun hi Γ3 => slT_mp Γ3 a lo hi⟩
instance bitsM_s [A : Sm φ (fV φ) m' m] : Sm φ (fV φ) (bitsM m') (bitsM m) := ⟨fun Γ => (rd_s.o Γ).bind fun v Γ1 => onInt (fun i => okN) v⟩
theorem isTyF_mp (T : TyN) (Γ : Gam) (v : Val) : LeR φ (fV φ) (isTyF T Γ v) (isTyF T (fG φ Γ) (fV φ v)) := by
  unfold isTyF
  rw [tyV_mp]
  cases tyV Γ v with
  | none => exact .stuck
  | some t =>
    simp only
    cases isTyB T t with
    | none => exact .stuck
    | some b => exact okB
instance isTyM_s {T : TyN} [A : Sm φ (fV φ) m' m] : Sm φ (fV φ) (isTyM T m') (isTyM T m) := ⟨fun Γ => (rd_s.o Γ).bind fun v Γ1 => isTyF_mp T Γ1 v⟩
theorem isTy2F_mp (T T' : TyN) (Γ : Gam) (v : Val) : LeR φ (fV φ) (isTy2F T T' Γ v) (isTy2F T T' (fG φ Γ) (fV φ v)) := by
  unfold isTy2F
  rw [tyV_mp]
  cases tyV Γ v with
  | none => exact .stuck
  | some t =>
    simp only
    cases isTyB T t with
    | none => exact .stuck
    | some b =>
      cases isTyB T' t with
      | none => exact .stuck
      | some b => exact okB
instance isTy2M_s {T T' : TyN} [A : Sm φ (fV φ) m' m] : Sm φ (fV φ) (isTy2M T T' m') (isTy2M T T' m) := ⟨fun Γ => (rd_s.o Γ).bind fun v Γ1 => isTy2F_mp T T' Γ1 v⟩
theorem isClF_mp (c : Str) (Γ : Gam) (v : Val) : LeR φ (fV φ) (isClF c Γ v) (isClF c (fG φ Γ) (fV φ v)) := by
  unfold isClF
  rw [viewI_mp, tyV_mp]
  cases viewI Γ v with
  | none =>
    simp only [Option.map_none]
    cases tyV Γ v with
    | none => exact .stuck
    | some t => cases t <;> first | exact .stuck | exact okB
  | some p =>
    simp only [Option.map_some, mI2]
    split
    · exact okB
    · exact .stuck
instance isClM_s {c : Str} [A : Sm φ (fV φ) m' m] : Sm φ (fV φ) (isClM c m') (isClM c m) := ⟨fun Γ => (rd_s.o Γ).bind fun v Γ1 => isClF_mp c Γ1 v⟩
instance fldK_s {cs : List Str} {x : Str} [A : Sm φ (fV φ) m' m] : Sm φ (fV φ) (fldK cs x m') (fldK cs x m) := ⟨fun Γ => (rd_s.o Γ).bind fun v Γ1 => by
  rw [viewI_mp]
  cases viewI Γ1 v with
  | none => exact .stuck
  | some p =>
    simp only [Option.map_some, mI2, lookI_mp]
    split
    · cases look p.2 x with
      | none => exact .stuck
      | some d => exact .ok
    · exact .stuck⟩
instance fldM_s {cs : List Str} {x : Str} [A : Sm φ (fV φ) m' m] : Sm φ (fV φ) (fldM cs x m') (fldM cs x m) := ⟨fun Γ => (rd_s.o Γ).bind fun v Γ1 => by
  rw [viewI_mp]
  cases viewI Γ1 v with
  | none => exact .stuck
  | some p =>
    simp only [Option.map_some, mI2, lookI_mp]
    split
    · cases look p.2 x with
      | none => exact .stuck
      | some d =>
        simp only [Option.map_some, strip_mp]
        exact .ok
    · exact .stuck⟩
instance appendM_s {j : Nat} [A : Sm φ (fV φ) m' m] : Sm φ (fV φ) (appendM j m') (appendM j m) := ⟨fun Γ => by
  unfold appendM
  rw [fG_get]
  cases Γ[j]? with
  | none => exact .stuck
  | some s => cases s with
    | one f => cases f with
      | ol ds =>
        refine (fzL_s.o Γ).bind fun d Γ1 => ?_
        rw [fG_get]
        cases Γ1[j]? with
        | none => exact .stuck
        | some s => cases s with
          | one f => cases f with
            | ol ds =>
              simp only [Option.map_some, fS, fF, mD, List.length_map]
              split
              · exact .of (by simp [rm, fV, mp_none, fG_set, fS_own, fS, fF])
              · exact .stuck
            | _ => exact .stuck
          | _ => exact .stuck
      | _ => exact .stuck
    | _ => exact .stuck⟩
theorem place_mp (M : Mono φ) (ds : List D) (d : D) : PySem.SeqAt.dataPlace (mD φ ds) (mp φ d) = PySem.SeqAt.dataPlace ds d := by
  unfold PySem.SeqAt.dataPlace
  simp only [mD, List.findIdx?_map]
  congr 1
  funext z
  exact eqv_mp M z d
instance indexM_s [N : Nm φ] [A : Sm φ (fV φ) ma' ma] [B : Sm φ (fV φ) mb' mb] : Sm φ (fV φ) (indexM ma' mb') (indexM ma mb) := ⟨fun Γ => (rd_s.o Γ).bind fun v Γ1 => by
  cases v with
  | f k =>
    simp only [fV, knOf_mp]
    cases knOf k with
    | none => exact .stuck
    | some ds =>
      simp only [Option.map_some]
      refine (rd_s.o Γ1).bind fun u Γ2 => ?_
      rw [viewD_mp]
      cases viewD Γ2 u with
      | none => exact .stuck
      | some d =>
        simp only [Option.map_some, okI_mp, place_mp N.m]
        split
        · cases PySem.SeqAt.dataPlace ds d with
          | none => exact .stuck
          | some j => exact okN
        · exact .stuck
  | _ => exact .stuck⟩
instance getM_s [N : Nm φ] [A : Sm φ (fV φ) ma' ma] [B : Sm φ (fV φ) mb' mb] : Sm φ (fV φ) (getM ma' mb') (getM ma mb) := ⟨fun Γ => (rd_s.o Γ).bind fun v Γ1 => by
  rw [viewK_mp]
  cases viewK Γ1 v with
  | none => exact .stuck
  | some _ =>
    simp only [Option.map_some]
    refine (rd_s.o Γ1).bind fun u Γ2 => ?_
    cases u with
    | f kd =>
      simp only [fV, keyOf_mp]
      cases keyOf kd with
      | none => exact .stuck
      | some k =>
        have e : viewK (fG φ Γ2) (fV φ v) = _ := viewK_mp Γ2 v
        simp only [fV] at e
        simp only [Option.map_some, e]
        cases viewK Γ2 v with
        | none => exact .stuck
        | some kds =>
          simp only [Option.map_some, lookK_mp N.m]
          refine .of ?_
          cases look kds k <;> simp [rm, fV, mp_none]
    | _ => exact .stuck⟩
instance lvalsM_s [A : Sm φ (fV φ) m' m] : Sm φ (fV φ) (lvalsM m') (lvalsM m) := ⟨fun Γ => (rd_s.o Γ).bind fun v Γ1 => by
  rw [viewK_mp]
  cases viewK Γ1 v with
  | none => exact .stuck
  | some kds => exact .of (by simp [rm, fV, fF, mD, mK])⟩
instance listZipM_s [A : Sm φ (List.map (fV φ)) ms' ms] : Sm φ (fV φ) (listZipM ms') (listZipM ms) := callM_s
end
end DL
end

section
set_option Elab.async false
set_option linter.all false
set_option maxRecDepth 100000
set_option autoImplicit false
set_option maxHeartbeats 1000000
/-! EQ5: calls, comprehensions, boxes, statements with other names. -/
namespace DL
open PySem PySem.Spec PyProof.Rows L2
variable {φ : Str → Str}
/-! ### calls -/
theorem isBx_mp (s : Slot) : isBx (fS φ s) = isBx s := by cases s <;> rfl
theorem isVal_mp (s : Slot) : isVal (fS φ s) = isVal s := by
  cases s with
  | one f => cases f <;> rfl
  | _ => rfl
theorem pinned_mp (s : Slot) : pinned (fS φ s) = pinned s := by
  cases s with
  | cmp c p f => cases p <;> rfl
  | box n p d => cases p <;> rfl
  | _ => rfl
theorem unpin_mp (s : Slot) : unpin (fS φ s) = fS φ (unpin s) := by cases s <;> rfl
theorem pinS_mp (s : Slot) : pinS (fS φ s) = fS φ (pinS s) := by cases s <;> rfl
theorem repin_mp (s t : Slot) : repin (fS φ s) (fS φ t) = fS φ (repin s t) := by cases t <;> cases s <;> rfl
theorem outV_mp (v : Val) : outV (fV φ v) = outV v := by cases v <;> rfl
theorem argsF_mp : ∀ (vs : List Val) (Γ : Gam), argsF (fG φ Γ) (vs.map (fV φ)) = rm φ (mD φ) (argsF Γ vs)
  | [], Γ => rfl
  | v :: vs, Γ => by
    simp only [List.map_cons, argsF]
    rw [fzV_mp]
    cases fzV Γ v with
    | stuck => rfl
    | err e Γ1 => rfl
    | ok d Γ1 =>
      simp only [rm, R.bind_ok]
      rw [argsF_mp vs Γ1]
      cases argsF Γ1 vs <;> rfl
theorem vals_mp (ds : List D) : (mD φ ds).map Slot.val = fG φ (ds.map Slot.val) := by
  simp only [mD, fG, List.map_map]
  rfl
section
variable {m' m ma' ma mb' mb mc' mc : Gam → R Val} {t' t ta' ta tb' tb : Gam → R Bool} {ms' ms : Gam → R (List Val)} {md' md : Gam → R (List D)} {f' f h' h : Gam → Val → Val → R Val} {c' c : Gam → List Val → R Val} {g' g : List Slot → R Val}
variable {i' i : Gam → R Src} {s' s n' n : Gam → RS}
theorem callV_mp (G : Sg φ g' g) (Γ : Gam) (vals : List Val) : LeR φ (fV φ) (callV g' Γ vals) (callV g (fG φ Γ) (vals.map (fV φ))) := by
  unfold callV
  rw [argsF_mp]
  refine LeR.bind .eq fun ds Γ1 => ?_
  have q := G.o (ds.map Slot.val)
  rw [← vals_mp] at q
  rcases q with q | q
  · rw [q]; exact .stuck
  · rw [q]
    cases g' (ds.map Slot.val) with
    | ok v As =>
      simp only [rm, outV_mp]
      split
      · exact .ok
      · exact .stuck
    | err e As => exact .of rfl
    | stuck => exact .stuck
theorem callX_mp (G : Sg φ g' g) (Γ : Gam) (j : Nat) (vals : List Val) : LeR φ (fV φ) (callX g' Γ j vals) (callX g (fG φ Γ) j (vals.map (fV φ))) := by
  unfold callX
  rw [argsF_mp]
  refine LeR.bind .eq fun ds Γ1 => ?_
  rw [fG_get]
  cases Γ1[j]? with
  | none => exact .stuck
  | some s =>
    simp only [Option.map_some, isBx_mp]
    split
    · have q := G.o (unpin s :: ds.map Slot.val)
      have e : fG φ (unpin s :: ds.map Slot.val) = unpin (fS φ s) :: (mD φ ds).map Slot.val := by
        rw [unpin_mp, vals_mp]; rfl
      rw [e] at q
      rcases q with q | q
      · rw [q]; exact .stuck
      · rw [q]
        cases g' (unpin s :: ds.map Slot.val) with
        | ok v As =>
          cases As with
          | nil => exact .stuck
          | cons s2 As =>
            simp only [rm, fG, List.map_cons, outV_mp, isBx_mp]
            split
            · refine .of ?_
              simp only [rm, repin_mp]
              rw [fG_set]
            · exact .stuck
        | err e As =>
          cases As with
          | nil => exact .stuck
          | cons s2 As =>
            simp only [rm, fG, List.map_cons, isBx_mp]
            split
            · refine .of ?_
              simp only [rm, repin_mp]
              rw [fG_set]
            · exact .stuck
        | stuck => exact .stuck
    · exact .stuck
theorem headBx_mp (Γ : Gam) (vs : List Val) : headBx (fG φ Γ) (vs.map (fV φ)) = (headBx Γ vs).map fun p => (p.1, p.2.map (fV φ)) := by
  cases vs with
  | nil => rfl
  | cons v vs =>
    cases v with
    | b j =>
      simp only [List.map_cons, fV, headBx, fG_get]
      cases Γ[j]? with
      | none => rfl
      | some s =>
        simp only [Option.map_some, isBx_mp]
        split <;> rfl
    | _ => rfl
instance callG_s [G : Sg φ g' g] : Sc φ (callG g') (callG g) := ⟨fun Γ vs => by
  unfold callG
  rw [headBx_mp]
  cases headBx Γ vs with
  | none => exact callV_mp G Γ vs
  | some p => exact callX_mp G Γ p.1 p.2⟩
theorem methB_mp (cl name : Str) (Γ : Gam) (v : Val) {X' X : R Val} (q : LeR φ (fV φ) X' X) : LeR φ (fV φ) (match viewC Γ v with
    | some (c, ns) => if c = cl ∧ name ∉ ns then X' else .stuck
    | none => .stuck) (match viewC (fG φ Γ) (fV φ v) with
    | some (c, ns) => if c = cl ∧ name ∉ ns then X else .stuck
    | none => .stuck) := by
  rw [viewC_mp]
  cases viewC Γ v with
  | none => exact .stuck
  | some p =>
    simp only
    split
    · exact q
    · exact .stuck
instance methM_s {cl name : Str} [G : Sg φ g' g] [A : Sm φ (fV φ) m' m] [B : Sm φ (List.map (fV φ)) ms' ms] : Sm φ (fV φ) (methM cl name g' m' ms') (methM cl name g m ms) := ⟨fun Γ => (rd_s.o Γ).bind fun v Γ1 => methB_mp cl name Γ1 v ((B.o Γ1).bind fun vs Γ2 => callG_s.o Γ2 (v :: vs))⟩
instance makeV_s {cl : Str} [G : Sg φ g' g] : Sc φ (makeV cl g') (makeV cl g) := ⟨fun Γ vs => by
  unfold makeV
  rw [argsF_mp]
  refine LeR.bind .eq fun ds Γ1 => ?_
  have q := G.o (.cmp cl none [] :: ds.map Slot.val)
  have e : fG φ (.cmp cl none [] :: ds.map Slot.val) = .cmp cl none [] :: (mD φ ds).map Slot.val := by
    rw [vals_mp]; rfl
  rw [e] at q
  rcases q with q | q
  · rw [q]; exact .stuck
  · rw [q]
    cases g' (.cmp cl none [] :: ds.map Slot.val) with
    | ok v As =>
      cases v with
      | f d => cases d with
        | none =>
          cases As with
          | nil => exact .stuck
          | cons s As => cases s <;> simp only [rm, fG, List.map_cons, fS, fV, mp_none] <;> first | exact .stuck | exact .ok
        | _ => exact .stuck
      | _ => exact .stuck
    | err e As => exact .of rfl
    | stuck => exact .stuck⟩
instance make0_s {cl : Str} [G : Sg φ g' g] : Sm φ (fV φ) (fun Γ => makeV cl g' Γ []) (fun Γ => makeV cl g Γ []) := ⟨fun Γ => makeV_s.o Γ []⟩
theorem perm_mp (perm : List Nat) (ds : List D) : (permL perm (mD φ ds)).map Val.f = ((permL perm ds).map Val.f).map (fV φ) := by
  unfold permL
  simp only [mD, List.getElem?_map]
  induction perm with
  | nil => rfl
  | cons k r ih =>
    simp only [List.filterMap_cons]
    cases ds[k]? with
    | none => exact ih
    | some d =>
      simp only [Option.map_some, List.map_cons]
      rw [← ih]
      rfl
instance callKM_s {k : Nat} {perm : List Nat} [G : Sg φ g' g] [A : Sm φ (mD φ) md' md] : Sm φ (fV φ) (callKM g' k perm md') (callKM g k perm md) := ⟨fun Γ => (A.o Γ).bind fun ds Γ1 => by
  have e : (mD φ ds).length = ds.length := by simp [mD]
  rw [e]
  split
  · rw [perm_mp]; exact callV_mp G Γ1 _
  · exact .stuck⟩
instance makeKM_s {cl : Str} {k : Nat} {perm : List Nat} [G : Sg φ g' g] [A : Sm φ (mD φ) md' md] : Sm φ (fV φ) (makeKM cl g' k perm md') (makeKM cl g k perm md) := ⟨fun Γ => (A.o Γ).bind fun ds Γ1 => by
  have e : (mD φ ds).length = ds.length := by simp [mD]
  rw [e]
  split
  · rw [perm_mp]; exact makeV_s.o Γ1 _
  · exact .stuck⟩
instance methKM_s {cl name : Str} {k : Nat} {perm : List Nat} [G : Sg φ g' g] [B : Sm φ (fV φ) m' m] [A : Sm φ (mD φ) md' md] : Sm φ (fV φ) (methKM cl name g' k perm m' md') (methKM cl name g k perm m md) := ⟨fun Γ => (rd_s.o Γ).bind fun v Γ1 => methB_mp cl name Γ1 v ((A.o Γ1).bind fun ds Γ2 => by
  have e : (mD φ ds).length = ds.length := by simp [mD]
  rw [e]
  split
  · rw [perm_mp]; exact callG_s.o Γ2 (v :: _)
  · exact .stuck)⟩
instance ownF_s {cl : Str} {neg : Bool} [N : Nm φ] [G : Sg φ g' g] : Sb φ (ownF cl g' neg) (ownF cl g neg) := ⟨fun Γ a b => by
  unfold ownF
  rw [viewI_mp, viewI_mp]
  cases viewI Γ a with
  | none => exact (eqF_s neg).o Γ a b
  | some pa =>
    simp only [Option.map_some, mI2]
    cases viewI Γ b with
    | none => exact .stuck
    | some pb =>
      simp only [Option.map_some, mI2]
      split
      · refine (callV_mp G Γ [a, b]).bind fun v Γ1 => ?_
        exact onBool (fun r => okB) v
      · exact .stuck⟩
/-! ### sources -/
def sM (φ : Str → Str) (s : Src) : Src := ⟨mD φ s.items, s.br.map fun p => (p.1, mD φ p.2)⟩
theorem srcF_mp (Γ : Gam) (v : Val) : srcF (fG φ Γ) (fV φ v) = rm φ (sM φ) (srcF Γ v) := by
  unfold srcF
  cases v with
  | f d => cases d <;> simp only [mp_none, mp_bool, mp_int, mp_str, mp_list, mp_tuple, mp_dict, fV] <;> rfl
  | b j =>
    simp only [fV, fG_get]
    cases Γ[j]? with
    | none => rfl
    | some s => cases s with
      | one f => cases f <;> rfl
      | _ => rfl
  | _ => rfl
theorem srcF'_mp (Γ : Gam) (v : Val) (hv : isS v = false) : srcF' (fG φ Γ) (fV φ v) = rm φ (sM φ) (srcF Γ v) := by
  rw [← srcF_mp]
  unfold srcF'
  cases v with
  | f d => cases d with
    | str z => simp [isS] at hv
    | _ => simp only [mp_none, mp_bool, mp_int, mp_str, mp_list, mp_tuple, mp_dict, fV] <;> rfl
  | _ => rfl
theorem srcS (Γ : Gam) (v : Val) : LeR φ (sM φ) (srcF Γ v) (srcF' (fG φ Γ) (fV φ v)) := by
  cases hv : isS v with
  | false => exact .of (srcF'_mp Γ v hv)
  | true =>
    cases v with
    | f d => cases d <;> first | exact .stuck | simp [isS] at hv
    | _ => simp [isS] at hv
def srcZT (m : Gam → R Val) : Gam → R Src := fun Γ => (fzL m Γ).bind fun d Γ1 => srcF Γ1 (.f d)
instance srcM'_s [A : Sm φ (fV φ) m' m] : Sm φ (sM φ) (srcM m') (srcM' m) := ⟨fun Γ => (rd_s.o Γ).bind fun v Γ1 => srcS Γ1 v⟩
instance srcM_s [A : Sm φ (fV φ) m' m] : Sm φ (sM φ) (srcM m') (srcM m) := ⟨fun Γ => (rd_s.o Γ).bind fun v Γ1 => .of (srcF_mp Γ1 v)⟩
instance srcZ_s [A : Sm φ (fV φ) m' m] : Sm φ (sM φ) (srcZT m') (srcZ m) := ⟨fun Γ => (fzL_s.o Γ).bind fun d Γ1 => srcS Γ1 (.f d)⟩
theorem range_mp (lo : Int) (n : Nat) : mD φ (rangeD lo n) = rangeD lo n := by
  simp only [mD, rangeD, List.map_map]
  congr 1
instance rg1M_s [A : Sm φ (List.map (fV φ)) ms' ms] : Sm φ (sM φ) (rg1M ms') (rg1M ms) := ⟨fun Γ => (A.o Γ).bind fun vs Γ1 => by
  rcases vs with _ | ⟨v, _ | ⟨u, r⟩⟩
  · exact .stuck
  · cases v with
    | f d => cases d with
      | int j =>
        simp only [List.map_cons, List.map_nil, fV, mp_int]
        split
        · exact .of (by simp [rm, sM, range_mp])
        · exact .stuck
      | _ => exact .stuck
    | _ => exact .stuck
  · cases v with
    | f d => cases d <;> exact .stuck
    | _ => exact .stuck⟩
instance rg2M_s [A : Sm φ (List.map (fV φ)) ms' ms] : Sm φ (sM φ) (rg2M ms') (rg2M ms) := ⟨fun Γ => (A.o Γ).bind fun vs Γ1 => by
  split
  · rename_i j k
    simp only [List.map_cons, List.map_nil, fV, mp_int]
    split
    · exact .of (by simp [rm, sM, range_mp])
    · exact .stuck
  · exact .stuck⟩
theorem enumGo_mp : ∀ (ds : List D) (k : Nat), enumGo k (mD φ ds) = mD φ (enumGo k ds)
  | [], k => rfl
  | d :: r, k => by
    simp only [mD, List.map_cons, enumGo, mp_tuple, List.map_nil, mp_int]
    rw [enumGo_mp r (k + 1)]
instance enumM_s [A : Sm φ (List.map (fV φ)) ms' ms] : Sm φ (sM φ) (enumM ms') (enumM ms) := ⟨fun Γ => (A.o Γ).bind fun vs Γ1 => by
  rcases vs with _ | ⟨v, _ | ⟨u, r⟩⟩
  · exact .stuck
  · refine .of ?_
    simp only [List.map_cons, List.map_nil, enumF, srcF_mp]
    cases srcF Γ1 v with
    | ok s Γ2 => simp [rm, sM, enumD, enumGo_mp]
    | err e Γ2 => rfl
    | stuck => rfl
  · exact .stuck⟩
theorem viewFL_mp (v : Val) : viewFL (fV φ v) = (viewFL v).map (mD φ) := by
  cases v with
  | f d => cases d <;> simp only [mp_none, mp_bool, mp_int, mp_str, mp_list, mp_tuple, mp_dict, fV] <;> rfl
  | _ => rfl
def zip2 (Γ : Gam) (v u : Val) : R Src := match viewD Γ v, viewD Γ u with
      | some (.tuple ds), some (.tuple es) => .ok ⟨zipD ds es, none⟩ Γ
      | _, _ => .stuck
theorem zip2_mp (Γ : Gam) (v u : Val) : zip2 (fG φ Γ) (fV φ v) (fV φ u) = rm φ (sM φ) (zip2 Γ v u) := by
  unfold zip2
  rw [viewD_mp, viewD_mp]
  cases viewD Γ v with
  | none => rfl
  | some d => cases d with
    | tuple ds => cases viewD Γ u with
      | none => simp only [Option.map_some, mp_tuple]; rfl
      | some e => cases e with
        | tuple es =>
          simp only [Option.map_some, mp_tuple, rm, sM, ← zipD_mp]
          rfl
        | _ => simp only [mp_none, mp_bool, mp_int, mp_str, mp_list, mp_tuple, mp_dict, Option.map_some] <;> rfl
    | _ => simp only [mp_none, mp_bool, mp_int, mp_str, mp_list, mp_tuple, mp_dict, Option.map_some] <;> rfl
instance zipM_s [A : Sm φ (List.map (fV φ)) ms' ms] : Sm φ (sM φ) (zipM ms') (zipM ms) := ⟨fun Γ => (A.o Γ).bind fun vs Γ1 => by
  rcases vs with _ | ⟨v, _ | ⟨u, _ | ⟨w, r⟩⟩⟩
  · exact .stuck
  · exact .stuck
  · refine .of ?_
    simp only [List.map_cons, List.map_nil, viewFL_mp]
    have z := zip2_mp (φ := φ) Γ1 v u
    cases hv : viewFL v with
    | none => exact z
    | some ds =>
      cases hu : viewFL u with
      | none => exact z
      | some es =>
        simp only [Option.map_some, rm, sM, ← zipD_mp]
        rfl
  · exact .stuck⟩
theorem itemsD_mp (kds : List (Key × D)) : itemsD (mK φ kds) = mD φ (itemsD kds) := by
  simp only [itemsD, mK, mD, List.map_map]
  congr 1
  funext p
  simp [mp_tuple, mp_keyD]
instance itemsM_s [A : Sm φ (fV φ) m' m] : Sm φ (sM φ) (itemsM m') (itemsM m) := ⟨fun Γ => (rd_s.o Γ).bind fun v Γ1 => by
  cases v with
  | f d =>
    simp only [fV, dicOf_mp]
    cases dicOf d with
    | none => exact .stuck
    | some kds => exact .of (by simp [rm, sM, itemsD_mp])
  | _ => exact .stuck⟩
instance valuesM_s [A : Sm φ (fV φ) m' m] : Sm φ (sM φ) (valuesM m') (valuesM m) := ⟨fun Γ => (rd_s.o Γ).bind fun v Γ1 => by
  cases v with
  | f d =>
    simp only [fV, dicOf_mp]
    cases dicOf d with
    | none => exact .stuck
    | some kds => exact .of (by simp [rm, sM, mD, mK])
  | _ => exact .stuck⟩
/-! ### targets -/
instance tgN_s {j : Nat} : St φ (tgN j) := ⟨fun d Γ => by
  unfold tgN
  rw [fG_len]
  split
  · simp [fG_set, fS_val]
  · rfl⟩
instance tgNil_s : Sts φ tgNil := ⟨fun ds Γ => by cases ds <;> rfl⟩
instance tgCons_s {tt : D → Gam → Option Gam} {u : List D → Gam → Option Gam} [A : St φ tt] [B : Sts φ u] : Sts φ (tgCons tt u) := ⟨fun ds Γ => by
  cases ds with
  | nil => rfl
  | cons d r =>
    simp only [mD, List.map_cons, tgCons, A.o]
    cases tt d Γ with
    | none => rfl
    | some Γ1 => exact B.o r Γ1⟩
instance tgT_s {k : Nat} {u : List D → Gam → Option Gam} [B : Sts φ u] : St φ (tgT k u) := ⟨fun d Γ => by
  cases d with
  | tuple ds =>
    simp only [mp_tuple, tgT, List.length_map]
    split
    · exact B.o ds Γ
    · rfl
  | _ => simp only [mp_none, mp_bool, mp_int, mp_str, mp_list, mp_tuple, mp_dict] <;> rfl⟩
instance tgTL_s {k : Nat} {u : List D → Gam → Option Gam} [B : Sts φ u] : St φ (tgTL k u) := ⟨fun d Γ => by
  cases d with
  | tuple ds =>
    simp only [mp_tuple, tgTL, List.length_map]
    split
    · exact B.o ds Γ
    · rfl
  | list ds =>
    simp only [mp_list, tgTL, List.length_map]
    split
    · exact B.o ds Γ
    · rfl
  | _ => simp only [mp_none, mp_bool, mp_int, mp_str, mp_list, mp_tuple, mp_dict] <;> rfl⟩
/-! ### comprehensions -/
theorem wipe_mp (Γ : Gam) : ∀ vs : List Nat, wipeG (fG φ Γ) vs = fG φ (wipeG Γ vs)
  | [] => rfl
  | v :: vs => by
    simp only [wipeG]
    rw [wipe_mp Γ vs, fG_set]
    rfl
theorem keepV_mp (o : Option Slot) : keepV (o.map (fS φ)) = fS φ (keepV o) := by
  cases o with
  | none => rfl
  | some s => cases s with
    | one f => cases f <;> rfl
    | _ => rfl
theorem rest_mp (Γ0 Γ : Gam) : ∀ vs : List Nat, restG (fG φ Γ0) (fG φ Γ) vs = fG φ (restG Γ0 Γ vs)
  | [] => rfl
  | v :: vs => by
    simp only [restG]
    rw [rest_mp Γ0 Γ vs, fG_set, fG_get, keepV_mp]
theorem compGo_mp {tg : D → Gam → Option Gam} {te' te : Gam → R D} (T : St φ tg) (A : Sm φ id t' t) (B : Sm φ (mp φ) te' te) (vs : List Nat) (br : Option (Nat × List D)) :
    ∀ (ds : List D) (Γ : Gam) (acc : List D), LeR φ (mD φ) (compGo tg t' te' vs br ds Γ acc) (compGo tg t te vs (br.map fun p => (p.1, mD φ p.2)) (mD φ ds) (fG φ Γ) (mD φ acc))
  | [], Γ, acc => by
    cases br with
    | none => exact .ok
    | some p => exact .stuck
  | d :: ds, Γ, acc => by
    cases br with
    | some p => exact .stuck
    | none =>
      simp only [Option.map_none, mD, List.map_cons, compGo, guardB_none, if_true, T.o]
      cases tg d Γ with
      | none => exact .stuck
      | some Γ1 =>
        refine (A.o Γ1).bind fun b Γ2 => ?_
        cases b with
        | false =>
          have e := compGo_mp T A B vs none ds (wipeG Γ2 vs) acc
          rw [← wipe_mp] at e
          exact e
        | true =>
          refine (B.o Γ2).bind fun y Γ3 => ?_
          simp only [List.length_map]
          split
          · have e := compGo_mp T A B vs none ds (wipeG Γ3 vs) (acc ++ [y])
            rw [← wipe_mp] at e
            simpa [mD] using e
          · exact .stuck
instance compM_s {tg : D → Gam → Option Gam} {te' te : Gam → R D} {us vs : List Nat} [I : Sm φ (sM φ) i' i] [T : St φ tg] [A : Sm φ id t' t] [B : Sm φ (mp φ) te' te] : Sm φ (fV φ) (compM i' tg t' te' us vs) (compM i tg t te us vs) := ⟨fun Γ => (I.o Γ).bind fun s Γ1 => by
  have e : brOk (sM φ s).br vs = brOk s.br vs := by
    cases s with
    | mk items br => cases br <;> rfl
  rw [e]
  split
  · have q := compGo_mp T A B vs s.br s.items (wipeG Γ1 vs) []
    rw [← wipe_mp] at q
    rcases q with q | q
    · rw [q]; exact .stuck
    · have q2 : compGo tg t te vs (sM φ s).br (sM φ s).items (wipeG (fG φ Γ1) vs) [] = _ := q
      rw [q2]
      generalize compGo tg t' te' vs s.br s.items (wipeG Γ1 vs) [] = r1
      cases r1 with
      | ok ds Γ2 =>
        simp only [rm, compEnd, mD, List.length_map]
        split
        · refine .of ?_
          simp only [rm, rest_mp]
          rfl
        · exact .stuck
      | _ => exact .stuck
  · exact .stuck⟩
instance yesM_s : Sm φ id yesM yesM := ⟨fun Γ => .ok⟩
/-! ### sort by a key -/
theorem keysG_mp (G : Sg φ g' g) : ∀ ds : List D, keysG g' ds = none ∨ keysG g (mD φ ds) = (keysG g' ds).map (mD φ)
  | [] => .inr rfl
  | d :: ds => by
    have q := G.o [.val d]
    simp only [mD, List.map_cons, keysG]
    rcases q with q | q
    · rw [q]; exact .inl rfl
    · change g [.val (mp φ d)] = _ at q
      rw [q]
      cases g' [.val d] with
      | ok v As => cases v with
        | f k =>
          simp only [rm, fV]
          rcases keysG_mp G ds with e | e
          · rw [e]; exact .inl rfl
          · simp only [mD] at e
            rw [e]
            cases keysG g' ds with
            | none => exact .inl rfl
            | some ks => exact .inr rfl
        | _ => exact .inl rfl
      | _ => exact .inl rfl
theorem dLe2_mp (M : Mono φ) (a b : D × D) : PySem.W.dataLe false (fun p : D × D => p.2) (mp φ a.1, mp φ a.2) (mp φ b.1, mp φ b.2) = PySem.W.dataLe false (fun p : D × D => p.2) a b := dataLe_mp M a.2 b.2
theorem sortKs_mp (M : Mono φ) (G : Sg φ g' g) (Γ : Gam) (ds : List D) : LeR φ (fV φ) (match keysG g' ds with
    | some ks => if okS ks = true then R.ok (.n (.ol ((srt (PySem.W.dataLe false fun p : D × D => p.2) (ds.zip ks)).map (·.1)))) Γ else .stuck
    | none => .stuck) (match keysG g (mD φ ds) with
    | some ks => if okS ks = true then R.ok (.n (.ol ((srt (PySem.W.dataLe false fun p : D × D => p.2) ((mD φ ds).zip ks)).map (·.1)))) (fG φ Γ) else .stuck
    | none => .stuck) := by
  rcases keysG_mp G ds with e | e
  · rw [e]; exact .stuck
  · rw [e]
    cases keysG g' ds with
    | none => exact .stuck
    | some ks =>
      simp only [Option.map_some, okS_mp]
      split
      · refine .of ?_
        have q := srt_mp (fun p : D × D => (mp φ p.1, mp φ p.2)) (dLe2_mp M) (ds.zip ks)
        have z : (mD φ ds).zip (mD φ ks) = (ds.zip ks).map fun p : D × D => (mp φ p.1, mp φ p.2) := by
          simp only [mD, List.zip_map]
          rfl
        rw [z, q]
        simp [rm, fV, fF, mD]
      · exact .stuck
instance sortKM_s [N : Nm φ] [G : Sg φ g' g] [A : Sm φ (fV φ) m' m] : Sm φ (fV φ) (sortKM g' m') (sortKM g m) := ⟨fun Γ => (rd_s.o Γ).bind fun v Γ1 => by
  unfold sortKF
  rw [viewD_mp]
  cases viewD Γ1 v with
  | none => exact .stuck
  | some d => cases d with
    | list ds => simp only [Option.map_some, mp_list]; exact sortKs_mp N.m G Γ1 ds
    | tuple ds => simp only [Option.map_some, mp_tuple]; exact sortKs_mp N.m G Γ1 ds
    | _ => exact .stuck⟩
end
end DL
end

section
set_option Elab.async false
set_option linter.all false
set_option maxRecDepth 100000
set_option autoImplicit false
set_option maxHeartbeats 1000000
/-! EQ6: boxes, statements, whole functions with other names. -/
namespace DL
open PySem PySem.Spec PyProof.Rows L2
variable {φ : Str → Str}
section
variable {m' m ma' ma mb' mb mc' mc : Gam → R Val} {t' t ta' ta tb' tb : Gam → R Bool} {ms' ms : Gam → R (List Val)} {md' md : Gam → R (List D)} {f' f h' h : Gam → Val → Val → R Val} {c' c : Gam → List Val → R Val} {g' g : List Slot → R Val}
variable {i' i : Gam → R Src} {s' s n' n : Gam → RS}
theorem LeR.stm {α β : Type} {k : α → β} {r' : R α} {r : R β} {k' : α → Gam → RS} {k2 : β → Gam → RS} (e : LeR φ k r' r) (q : ∀ a Γ, LeS φ (k' a Γ) (k2 (k a) (fG φ Γ))) : LeS φ (DL.stm r' k') (DL.stm r k2) := LeS.stm e q
/-! ### Basis -/
theorem keptOf_mp (Γ : Gam) : keptOf (fG φ Γ) = (keptOf Γ).map (mK φ) := by
  unfold keptOf
  rw [fG_get]
  cases Γ[(0 : Nat)]? with
  | none => rfl
  | some s => cases s with
    | one f => cases f with
      | fz d =>
        simp only [Option.map_some, fS, fF, decI_mp]
        cases decI d with
        | none => rfl
        | some p =>
          obtain ⟨c, l⟩ := p
          simp only [Option.map_some, mI2]
          rcases l with _ | ⟨⟨a, b⟩, _ | ⟨q, r⟩⟩
          · rfl
          · simp only [mI, List.map_cons, List.map_nil, kdOf_mp]
            split <;> rfl
          · rfl
      | _ => rfl
    | box k p d =>
      simp only [Option.map_some, fS]
      by_cases hk : k = 1
      · subst hk
        exact kdOf_mp d
      · have e : ∀ d : D, (match (some (Slot.box k p d) : Option Slot) with
          | some (.box 1 _ d) => kdOf d
          | some (.one (.fz d)) => match decI d with
            | some (c, [(f, dk)]) => if c = "Basis" ∧ f = "kept" then kdOf dk else none
            | _ => none
          | _ => none) = none := by
          intro d
          split
          · rename_i h
            injection h with h
            injection h with h
            exact absurd h hk
          · rename_i h
            injection h with h
            cases h
          · rfl
        exact (e _).trans (congrArg (Option.map (mK φ)) (e d)).symm
    | _ => rfl
instance kinM_s [N : Nm φ] [A : Sm φ (fV φ) m' m] : Sm φ (fV φ) (kinM m') (kinM m) := ⟨fun Γ => (rd_s.o Γ).bind fun v Γ1 => by
  cases v with
  | f d =>
    simp only [fV, keyOf_mp, keptOf_mp]
    cases keyOf d with
    | none => exact .stuck
    | some k =>
      cases keptOf Γ1 with
      | none => exact .stuck
      | some kds =>
        simp only [Option.map_some, lookK_mp N.m, Option.isSome_map]
        exact okB
  | _ => exact .stuck⟩
instance klenM_s : Sm φ (fV φ) klenM klenM := ⟨fun Γ => by
  unfold klenM
  rw [keptOf_mp]
  cases keptOf Γ with
  | none => exact .stuck
  | some kds =>
    simp only [Option.map_some, mK, List.length_map]
    exact okN⟩
theorem keyG (G : Sg φ g' g) (d : D) : (∀ v As, g' [.val d] ≠ .ok (.f v) As) ∨ ∃ v As, g' [.val d] = .ok (.f v) As ∧ g [.val (mp φ d)] = .ok (.f (mp φ v)) (fG φ As) := by
  rcases G.o [.val d] with q | q
  · left
    intro v As h
    rw [q] at h
    cases h
  · change g [.val (mp φ d)] = _ at q
    cases h : g' [.val d] with
    | ok v As => cases v with
      | f v => exact .inr ⟨v, As, rfl, by rw [q, h]; rfl⟩
      | _ => left; intro v As h2; cases h2
    | _ => left; intro v As h2; cases h2
instance kgetM_s {j : Nat} [N : Nm φ] [G : Sg φ g' g] : Sm φ (fV φ) (kgetM g' j) (kgetM g j) := ⟨fun Γ => by
  unfold kgetM
  rw [fG_get]
  cases Γ[j]? with
  | none => exact .stuck
  | some s => cases s with
    | one f => cases f with
      | fz d =>
        simp only [Option.map_some, fS, fF, keptOf_mp]
        rcases keyG G d with q | ⟨v, As, q, q2⟩
        · split
          · rename_i h
            exact absurd h (q _ _)
          · exact .stuck
        · rw [q, q2]
          simp only [keyOf_mp]
          cases keyOf v with
          | none => exact .stuck
          | some k =>
            cases keptOf Γ with
            | none => exact .stuck
            | some kds =>
              simp only [Option.map_some, lookK_mp N.m]
              cases look kds k with
              | none => exact .stuck
              | some v => exact .ok
      | _ => exact .stuck
    | _ => exact .stuck⟩
instance kputM_s {j : Nat} [N : Nm φ] [G : Sg φ g' g] [A : Sm φ (fV φ) m' m] : Ss φ (kputM g' j m') (kputM g j m) := ⟨fun Γ => (fzL_s.o Γ).stm fun d Γ1 => by
  rw [fG_get, fG_get]
  cases Γ1[(0 : Nat)]? with
  | none => exact .st
  | some s => cases s with
    | box k pin dk =>
      by_cases hk : k = 1
      · subst hk
        simp only [Option.map_some, fS]
        cases Γ1[j]? with
        | none => exact .st
        | some s => cases s with
          | one f => cases f with
            | fz di =>
              simp only [Option.map_some, fS, fF, kdOf_mp]
              rcases keyG G di with q | ⟨v, As, q, q2⟩
              · split
                · rename_i h
                  exact absurd h (q _ _)
                · exact .st
              · rw [q, q2]
                simp only [keyOf_mp]
                cases keyOf v with
                | none => exact .st
                | some k =>
                  cases kdOf dk with
                  | none => exact .st
                  | some kds =>
                    simp only [Option.map_some]
                    rw [putK_mp N.m]
                    simp only [mK, List.length_map]
                    split
                    · refine .inr ?_
                      simp only [rmS, fG_set, fS, mp_dicK]
                    · exact .st
            | _ => exact .st
          | _ => exact .st
      · refine .inl ?_
        split
        · simp_all
        · rfl
    | _ => exact .st⟩
instance kinitM_s : Ss φ kinitM kinitM := ⟨fun Γ => by
  unfold kinitM
  rw [fG_get]
  cases Γ[(0 : Nat)]? with
  | none => exact .st
  | some s => cases s with
    | cmp c pin fds =>
      cases fds with
      | nil =>
        simp only [Option.map_some, fS, mI, List.map_nil]
        split
        · refine .inr ?_
          simp [rmS, fG_set, fS, mp_dicK]
        · exact .st
      | cons _ _ => exact .st
    | _ => exact .st⟩
/-! ### Pairing -/
theorem parD {d : D} {ds : List D} {dk : D} (h : mp φ d = .tuple [.list ds, dk]) : ∃ ds0 dk0, d = .tuple [.list ds0, dk0] ∧ ds = mD φ ds0 ∧ dk = mp φ dk0 := by
  cases d with
  | tuple l =>
    rw [mp_tuple] at h
    rcases l with _ | ⟨a, _ | ⟨b, _ | ⟨e, r⟩⟩⟩ <;> simp at h
    obtain ⟨h1, h2⟩ := h
    cases a with
    | list l =>
      rw [mp_list] at h1
      injection h1 with h1
      exact ⟨l, b, rfl, h1.symm, h2.symm⟩
    | _ => simp [mp_none, mp_bool, mp_int, mp_str, mp_tuple, mp_dict] at h1
  | _ => simp [mp_none, mp_bool, mp_int, mp_str, mp_list, mp_dict] at h
def parX (φ : Str → Str) (p : Option Addr × List D × List (Key × D)) : Option Addr × List D × List (Key × D) := (p.1, mD φ p.2.1, mK φ p.2.2)
theorem parOf_mp (s : Slot) : parOf (fS φ s) = (parOf s).map (parX φ) := by
  cases s with
  | box k pin d =>
    by_cases h : k = 2 ∧ ∃ ds dk, d = .tuple [.list ds, dk]
    · obtain ⟨rfl, ds, dk, rfl⟩ := h
      simp only [fS, mp_tuple, List.map_cons, List.map_nil, mp_list, parOf, kdOf_mp]
      cases kdOf dk <;> rfl
    · have e : ∀ (d : D), (¬ (k = 2 ∧ ∃ ds dk, d = .tuple [.list ds, dk])) → parOf (.box k pin d) = none := by
        intro d h
        unfold parOf
        split
        · rename_i h2
          injection h2 with h3 h4 h5
          exact absurd ⟨h3, _, _, h5⟩ h
        · rfl
      rw [e d h]
      simp only [fS]
      rw [e (mp φ d)]
      · rfl
      · rintro ⟨h1, ds, dk, h2⟩
        obtain ⟨a, b, rfl, _⟩ := parD h2
        exact h ⟨h1, a, b, rfl⟩
  | _ => rfl
instance pinitM_s : Ss φ pinitM pinitM := ⟨fun Γ => by
  unfold pinitM
  rw [fG_get]
  cases Γ[(0 : Nat)]? with
  | none => exact .st
  | some s => cases s with
    | cmp c pin fds =>
      cases fds with
      | nil =>
        simp only [Option.map_some, fS, mI, List.map_nil]
        split
        · refine .inr ?_
          simp [rmS, fG_set, fS, mp_dicK, mp_tuple, mp_list]
        · exact .st
      | cons _ _ => exact .st
    | _ => exact .st⟩
instance pappM_s {j : Nat} : Ss φ (pappM j) (pappM j) := ⟨fun Γ => by
  unfold pappM
  rw [fG_get, fG_get]
  cases Γ[(0 : Nat)]? with
  | none => exact .st
  | some s =>
    simp only [Option.map_some, parOf_mp]
    cases parOf s with
    | none => exact .st
    | some p =>
      cases Γ[j]? with
      | none => exact .st
      | some s2 => cases s2 with
        | one f => cases f with
          | fz d =>
            simp only [Option.map_some, parX, fS, fF, mD, List.length_map]
            split
            · refine .inr ?_
              simp [rmS, fG_set, fS, mp_dicK, mp_tuple, mp_list]
            · exact .st
          | _ => exact .st
        | _ => exact .st⟩
instance pputM_s {j k : Nat} [N : Nm φ] [G : Sg φ g' g] : Ss φ (pputM g' j k) (pputM g j k) := ⟨fun Γ => by
  unfold pputM
  rw [fG_get, fG_get, fG_get]
  cases Γ[(0 : Nat)]? with
  | none => exact .st
  | some s =>
    simp only [Option.map_some, parOf_mp]
    cases parOf s with
    | none => exact .st
    | some p =>
      cases Γ[k]? with
      | none => exact .st
      | some s2 => cases s2 with
        | one f => cases f with
          | fz d =>
            cases Γ[j]? with
            | none => exact .st
            | some s3 => cases s3 with
              | one f => cases f with
                | fz di =>
                  simp only [Option.map_some, parX, fS, fF]
                  rcases keyG G di with q | ⟨v, As, q, q2⟩
                  · split
                    · rename_i h
                      exact absurd h (q _ _)
                    · exact .st
                  · rw [q, q2]
                    simp only [keyOf_mp]
                    cases keyOf v with
                    | none => exact .st
                    | some k =>
                      simp only [Option.map_some]
                      rw [putK_mp N.m]
                      simp only [mK, List.length_map]
                      split
                      · refine .inr ?_
                        simp [rmS, fG_set, fS, mp_dicK, mp_tuple, mp_list]
                      · exact .st
                | _ => exact .st
              | _ => exact .st
          | _ => exact .st
        | _ => exact .st⟩
instance pendM_s : Ss φ pendM pendM := ⟨fun Γ => by
  unfold pendM
  rw [fG_get]
  cases Γ[(0 : Nat)]? with
  | none => exact .st
  | some s =>
    simp only [Option.map_some, parOf_mp]
    cases parOf s with
    | none => exact .st
    | some p =>
      refine .inr ?_
      simp [parX, rmS, fG_set, fS, mp_dicF, mp_list, mI]⟩
/-! ### statements -/
instance nextM_s : Ss φ nextM nextM := ⟨fun Γ => .nx⟩
instance stk_s {m : Gam → RS} : Ss φ (fun _ => .stuck) m := ⟨fun _ => .st⟩
instance seqM_s [A : Ss φ s' s] [B : Ss φ n' n] : Ss φ (seqM s' n') (seqM s n) := ⟨fun Γ => by
  unfold seqM
  rcases A.o Γ with q | q
  · rw [q]; exact .st
  · rw [q]
    cases s' Γ with
    | nx Γ1 => exact B.o Γ1
    | stuck => exact .st
    | _ => exact .inr rfl⟩
instance exprM_s [A : Sm φ (fV φ) m' m] : Ss φ (exprM m') (exprM m) := ⟨fun Γ => (A.o Γ).stm fun _ Γ1 => .nx⟩
theorem retV_mp (v : Val) (Γ : Gam) : LeS φ (retV v Γ) (retV (fV φ v) (fG φ Γ)) := by
  cases v with
  | b j =>
    have e := fzV_mp (φ := φ) Γ (.b j)
    exact LeS.stm (.of e) fun d Γ1 => .inr rfl
  | _ => exact .inr rfl
instance retM_s [A : Sm φ (fV φ) m' m] : Ss φ (retM m') (retM m) := ⟨fun Γ => (A.o Γ).stm fun v Γ1 => retV_mp v Γ1⟩
instance ifS_s [T : Sm φ id t' t] [A : Ss φ s' s] [B : Ss φ n' n] : Ss φ (ifS t' s' n') (ifS t s n) := ⟨fun Γ => (T.o Γ).stm fun c Γ1 => by
  cases c
  · exact B.o Γ1
  · exact A.o Γ1⟩
instance asgM_s {tg : D → Gam → Option Gam} [T : St φ tg] [A : Sm φ (fV φ) m' m] : Ss φ (asgM m' tg) (asgM m tg) := ⟨fun Γ => (fzL_s.o Γ).stm fun d Γ1 => by
  rw [T.o]
  cases tg d Γ1 with
  | none => exact .st
  | some Γ2 => exact .nx⟩
theorem setV_mp (j : Nat) (v : Val) (Γ : Gam) : LeS φ (setV j v Γ) (setV j (fV φ v) (fG φ Γ)) := by
  unfold setV
  rw [fG_len]
  split
  · cases v with
    | b k =>
      have e := fzV_mp (φ := φ) Γ (.b k)
      refine LeS.stm (.of e) fun d Γ1 => .inr ?_
      simp only [rmS, fG_set, fS_val]
    | _ => exact .inr (by simp only [rmS, fG_set]; rfl)
  · exact .st
instance setM_s {j : Nat} [A : Sm φ (fV φ) m' m] : Ss φ (setM j m') (setM j m) := ⟨fun Γ => (A.o Γ).stm fun v Γ1 => setV_mp j v Γ1⟩
instance parM_s {j k : Nat} [A : Sm φ (mD φ) md' md] : Ss φ (parM j k md') (parM j k md) := ⟨fun Γ => (A.o Γ).stm fun ds Γ1 => by
  rcases ds with _ | ⟨a, _ | ⟨b, _ | ⟨c, r⟩⟩⟩
  · exact .st
  · exact .st
  · simp only [mD, List.map_cons, List.map_nil, fG_len]
    split
    · exact .inr (by simp only [rmS, fG_set, fS_val])
    · exact .st
  · exact .st⟩
instance par3M_s {j k l : Nat} [A : Sm φ (mD φ) md' md] : Ss φ (par3M j k l md') (par3M j k l md) := ⟨fun Γ => (A.o Γ).stm fun ds Γ1 => by
  rcases ds with _ | ⟨a, _ | ⟨b, _ | ⟨c, _ | ⟨d, r⟩⟩⟩⟩
  · exact .st
  · exact .st
  · exact .st
  · simp only [mD, List.map_cons, List.map_nil, fG_len]
    split
    · exact .inr (by simp only [rmS, fG_set, fS_val])
    · exact .st
  · exact .st⟩
instance par2M_s {j k : Nat} [A : Sm φ (fV φ) ma' ma] [B : Sm φ (fV φ) mb' mb] : Ss φ (par2M j k ma' mb') (par2M j k ma mb) := ⟨fun Γ => (fzL_s.o Γ).stm fun d Γ1 => (B.o Γ1).stm fun v Γ2 => by
  rw [fG_len]
  split
  · cases v with
    | b k => exact .st
    | _ => exact .inr (by simp only [rmS, fG_set, fS_val]; rfl)
  · exact .st⟩
theorem putFd_mp (f : Str) (v : D) : ∀ l : List (Str × D), putFd f (mp φ v) (mI φ l) = mI φ (putFd f v l)
  | [] => rfl
  | (k, x) :: r => by
    simp only [mI, List.map_cons, putFd]
    split
    · rfl
    · simp only [List.map_cons]
      rw [← mI, putFd_mp f v r]
instance fldS_s {cl x : Str} {j : Nat} [A : Sm φ (fV φ) m' m] : Ss φ (fldS cl x j m') (fldS cl x j m) := ⟨fun Γ => (fzL_s.o Γ).stm fun d Γ1 => by
  rw [fG_get]
  cases Γ1[j]? with
  | none => exact .st
  | some s => cases s with
    | cmp c pin fds =>
      simp only [Option.map_some, fS, List.length_map]
      split
      · refine .inr ?_
        simp only [rmS, fG_set, fS, putFd_mp]
      · exact .st
    | _ => exact .st⟩
theorem forGo_mp {tg : D → Gam → Option Gam} (T : St φ tg) (A : Ss φ s' s) : ∀ (ds : List D) (Γ : Gam), LeS φ (forGo tg s' ds Γ) (forGo tg s (mD φ ds) (fG φ Γ))
  | [], Γ => .nx
  | d :: ds, Γ => by
    simp only [mD, List.map_cons, forGo, T.o]
    cases tg d Γ with
    | none => exact .st
    | some Γ1 =>
      simp only [Option.map_some]
      rcases A.o Γ1 with q | q
      · rw [q]; exact .st
      · rw [q]
        cases s' Γ1 with
        | nx Γ2 => exact forGo_mp T A ds Γ2
        | ct Γ2 => exact forGo_mp T A ds Γ2
        | bk Γ2 => exact .nx
        | stuck => exact .st
        | _ => exact .inr rfl
instance forM_s {tg : D → Gam → Option Gam} [I : Sm φ (sM φ) i' i] [T : St φ tg] [A : Ss φ s' s] : Ss φ (forM i' tg s') (forM i tg s) := ⟨fun Γ => (I.o Γ).stm fun z Γ1 => by
  obtain ⟨items, br⟩ := z
  cases br with
  | none => exact forGo_mp T A items Γ1
  | some _ => exact .st⟩
instance whileGo_s [T : Sm φ id t' t] [A : Ss φ s' s] : ∀ {k : Nat}, Ss φ (whileGo t' s' k) (whileGo t s k)
  | 0 => ⟨fun Γ => .st⟩
  | k + 1 => ⟨fun Γ => (T.o Γ).stm fun b Γ1 => by
    cases b with
    | false => exact .nx
    | true =>
      have W : Ss φ (whileGo t' s' k) (whileGo t s k) := whileGo_s
      show LeS φ (match s' Γ1 with | .nx Γ2 => whileGo t' s' k Γ2 | .ct Γ2 => whileGo t' s' k Γ2 | .bk Γ2 => .nx Γ2 | r => r) (match s (fG φ Γ1) with | .nx Γ2 => whileGo t s k Γ2 | .ct Γ2 => whileGo t s k Γ2 | .bk Γ2 => .nx Γ2 | r => r)
      rcases A.o Γ1 with q | q
      · rw [q]; exact .st
      · rw [q]
        cases s' Γ1 with
        | nx Γ2 => exact W.o Γ2
        | ct Γ2 => exact W.o Γ2
        | bk Γ2 => exact .nx
        | stuck => exact .st
        | _ => exact .inr rfl⟩
/-! ### whole functions -/
theorem startA_mp (nl : Nat) (As : List Slot) : startA nl (fG φ As) = fG φ (startA nl As) := by
  unfold startA
  rw [fG_len]
  simp only [fG, List.map_append, List.map_replicate]
  congr 1
  cases As with
  | nil => rfl
  | cons a r => simp only [List.map_cons, pinA, pinS_mp]
theorem argOk_mp (As : List Slot) : argOk (fG φ As) = argOk As := by
  cases As with
  | nil => rfl
  | cons a r =>
    simp only [fG, List.map_cons, argOk, isBx_mp, isVal_mp, List.all_map]
    congr 2
    funext z
    exact isVal_mp z
theorem finA_mp (As : List Slot) (Γ : Gam) : finA (fG φ As) (fG φ Γ) = (finA As Γ).map (fG φ) := by
  cases As with
  | nil => rfl
  | cons a r =>
    simp only [fG, List.map_cons, finA, isBx_mp]
    split
    · cases Γ with
      | nil => rfl
      | cons t _ =>
        simp only [List.map_cons, pinned_mp]
        split
        · simp [unpin_mp]
        · rfl
    · rfl
theorem outG_mp (As : List Slot) {r' r : RS} (h : LeS φ r' r) : LeR φ (fV φ) (outG As r') (outG (fG φ As) r) := by
  rcases h with rfl | rfl
  · exact .stuck
  · cases r' with
    | rt v Γ =>
      simp only [rmS, outG, outV_mp, finA_mp]
      split
      · cases finA As Γ with
        | none => exact .stuck
        | some A => exact .ok
      · exact .stuck
    | nx Γ =>
      simp only [rmS, outG, finA_mp]
      cases finA As Γ with
      | none => exact .stuck
      | some A => exact .of (by simp [rm, fV, mp_none])
    | err e Γ =>
      simp only [rmS, outG, finA_mp]
      cases finA As Γ with
      | none => exact .stuck
      | some A => exact .of rfl
    | _ => exact .stuck
instance gOf_s {np nl : Nat} [A : Ss φ s' s] : Sg φ (gOf np nl s') (gOf np nl s) := ⟨fun As => by
  unfold gOf
  rw [fG_len, argOk_mp, startA_mp]
  split
  · exact outG_mp As (A.o _)
  · exact .stuck⟩
end
end DL
end

section
set_option Elab.async false
set_option linter.all false
set_option maxRecDepth 100000
set_option autoImplicit false
set_option maxHeartbeats 1000000
/-! EQ7: a rising renaming that sends given names to given words. -/
namespace DL
open PySem PySem.Spec PyProof.Rows L2
def rnm (pre : List Nat) : List (List Nat × List Nat) → List Nat → List Nat
  | [], s => pre ++ 1 :: s
  | (c, A) :: r, s => if s < c then pre ++ 1 :: s else if s = c then A else rnm A r s
def Asc (pre : List Nat) : List (List Nat × List Nat) → Prop
  | [] => True
  | (_, A) :: r => pre < A ∧ (∀ x ∈ A, 2 ≤ x) ∧ Asc A r
theorem lt_app (a : List Nat) (x : Nat) (s : List Nat) : a < a ++ x :: s := by
  induction a with
  | nil => simp
  | cons b a ih =>
    rw [List.cons_append, List.cons_lt_cons_iff]
    exact .inr ⟨rfl, ih⟩
theorem app_lt {s t : List Nat} (h : s < t) (a : List Nat) : a ++ 1 :: s < a ++ 1 :: t :=
  List.append_left_lt (List.cons_lt_cons_iff.mpr (.inr ⟨rfl, h⟩))
theorem below : ∀ (p A s : List Nat), p < A → (∀ x ∈ A, 2 ≤ x) → p ++ 1 :: s < A
  | [], [], s, h, _ => absurd h (List.lt_irrefl _)
  | [], a :: A, s, h, h2 => by
    have := h2 a (by simp)
    rw [List.nil_append, List.cons_lt_cons_iff]
    exact .inl (by omega)
  | q :: p, [], s, h, _ => by simp at h
  | q :: p, a :: A, s, h, h2 => by
    rw [List.cons_lt_cons_iff] at h
    rw [List.cons_append, List.cons_lt_cons_iff]
    rcases h with h | ⟨h, h3⟩
    · exact .inl h
    · exact .inr ⟨h, below p A s h3 fun x hx => h2 x (by simp [hx])⟩
theorem above : ∀ (r : List (List Nat × List Nat)) (A t : List Nat), Asc A r → A < rnm A r t
  | [], A, t, _ => lt_app A 1 t
  | (c, B) :: r, A, t, h => by
    unfold rnm
    split
    · exact lt_app A 1 t
    · split
      · exact h.1
      · exact List.lt_trans h.1 (above r B t h.2.2)
theorem rnm_mono : ∀ (ps : List (List Nat × List Nat)) (pre s t : List Nat), Asc pre ps → s < t → rnm pre ps s < rnm pre ps t
  | [], pre, s, t, _, h => app_lt h pre
  | (c, A) :: r, pre, s, t, a, h => by
    by_cases h1 : s < c
    · have e : rnm pre ((c, A) :: r) s = pre ++ 1 :: s := by rw [rnm, if_pos h1]
      rw [e]
      unfold rnm
      split
      · exact app_lt h pre
      · have b := below pre A s a.1 a.2.1
        split
        · exact b
        · exact List.lt_trans b (above r A t a.2.2)
    · have ht : ¬ t < c := fun h2 => h1 (List.lt_trans h h2)
      have ht2 : t ≠ c := fun h2 => h1 (h2 ▸ h)
      have e : rnm pre ((c, A) :: r) t = rnm A r t := by rw [rnm, if_neg ht, if_neg ht2]
      rw [e, show rnm pre ((c, A) :: r) s = if s < c then pre ++ 1 :: s else if s = c then A else rnm A r s by rw [rnm], if_neg h1]
      split
      · exact above r A t a.2.2
      · exact rnm_mono r A s t a.2.2 h
theorem rnm_at : ∀ (ps : List (List Nat × List Nat)) (pre : List Nat), ps.Pairwise (fun p q => p.1 < q.1) → ∀ p ∈ ps, rnm pre ps p.1 = p.2
  | [], pre, _, p, h => by simp at h
  | (c, A) :: r, pre, hp, p, h => by
    rw [List.pairwise_cons] at hp
    rw [List.mem_cons] at h
    unfold rnm
    rcases h with rfl | h
    · rw [if_neg (List.lt_irrefl _), if_pos rfl]
    · have h1 := hp.1 p h
      rw [if_neg (List.lt_asymm h1), if_neg (fun e => List.lt_irrefl c (by rw [e] at h1; exact h1))]
      exact rnm_at r A hp.2 p h
theorem str_ext {s t : Str} (h : s.cps.toList = t.cps.toList) : s = t := by
  cases s; cases t
  simpa using h
def phi (ps : List (List Nat × List Nat)) (s : Str) : Str := ⟨(rnm [] ps s.cps.toList).toArray⟩
theorem phi_mono {ps : List (List Nat × List Nat)} (h : Asc [] ps) : Mono (phi ps) := by
  have m := rnm_mono ps []
  have l : ∀ s t : Str, strKind.blt (phi ps s).cps.toList (phi ps t).cps.toList = strKind.blt s.cps.toList t.cps.toList := by
    intro s t
    show decide (rnm [] ps s.cps.toList < rnm [] ps t.cps.toList) = decide (s.cps.toList < t.cps.toList)
    generalize s.cps.toList = a
    generalize t.cps.toList = b
    rw [decide_eq_decide]
    refine ⟨fun q => ?_, m a b h⟩
    rcases Std.lt_trichotomy a b with e | e | e
    · exact e
    · rw [e] at q
      exact absurd q (List.lt_irrefl _)
    · exact absurd q (List.lt_asymm (m b a h e))
  refine ⟨l, fun s t e => ?_⟩
  apply str_ext
  have e2 : rnm [] ps s.cps.toList = rnm [] ps t.cps.toList := by
    have := congrArg (fun z : Str => z.cps.toList) e
    simpa [phi] using this
  rcases Std.lt_trichotomy s.cps.toList t.cps.toList with q | q | q
  · have := m _ _ h q
    rw [e2] at this
    exact absurd this (List.lt_irrefl _)
  · exact q
  · have := m _ _ h q
    rw [e2] at this
    exact absurd this (List.lt_irrefl _)
theorem phi_at {ps : List (List Nat × List Nat)} (h : ps.Pairwise (fun p q => p.1 < q.1)) {c A : Str} (hc : (c.cps.toList, A.cps.toList) ∈ ps) : phi ps c = A := by
  apply str_ext
  show ((rnm [] ps c.cps.toList).toArray).toList = _
  rw [List.toList_toArray]
  exact rnm_at ps [] h _ hc
/-- a word: 1 to 8 small letters -/
structure Word (s : Str) : Prop where
  len : 1 ≤ s.cps.toList.length ∧ s.cps.toList.length ≤ 8
  let_ : ∀ x ∈ s.cps.toList, 97 ≤ x ∧ x ≤ 122
theorem nil_lt_word {s : Str} (h : Word s) : [] < s.cps.toList := by
  have := h.len
  cases e : s.cps.toList with
  | nil => rw [e] at this; simp at this
  | cons a l => simp
def prs (cs ws : List Str) : List (List Nat × List Nat) := (cs.zip ws).map fun p => (p.1.cps.toList, p.2.cps.toList)
theorem asc_prs : ∀ (cs ws : List Str) (pre : List Nat), (∀ w ∈ ws, Word w ∧ pre < w.cps.toList) → ws.Pairwise (fun a b => a.cps.toList < b.cps.toList) → Asc pre (prs cs ws)
  | [], _, _, _, _ => trivial
  | _ :: _, [], _, _, _ => trivial
  | c :: cs, w :: ws, pre, h, hp => by
    rw [List.pairwise_cons] at hp
    have h1 := h w (by simp)
    refine ⟨h1.2, fun x hx => ?_, asc_prs cs ws _ (fun v hv => ⟨(h v (by simp [hv])).1, hp.1 v hv⟩) hp.2⟩
    have := h1.1.let_ x hx
    omega
theorem pw_prs : ∀ (cs ws : List Str), cs.Pairwise (fun a b => a.cps.toList < b.cps.toList) → (prs cs ws).Pairwise (fun p q => p.1 < q.1)
  | [], _, _ => .nil
  | _ :: _, [], _ => .nil
  | c :: cs, w :: ws, hp => by
    rw [List.pairwise_cons] at hp
    show List.Pairwise _ ((c.cps.toList, w.cps.toList) :: prs cs ws)
    rw [List.pairwise_cons]
    refine ⟨fun p hp2 => ?_, pw_prs cs ws hp.2⟩
    simp only [prs, List.mem_map] at hp2
    obtain ⟨q, hq, rfl⟩ := hp2
    exact hp.1 _ (List.of_mem_zip hq).1
theorem phi_ex (cs ws : List Str) (hc : cs.Pairwise (fun a b => a.cps.toList < b.cps.toList)) (hw : ws.Pairwise (fun a b => a.cps.toList < b.cps.toList)) (h : ∀ w ∈ ws, Word w) : ∃ φ : Str → Str, Mono φ ∧ ∀ p ∈ cs.zip ws, φ p.1 = p.2 :=
  ⟨phi (prs cs ws), phi_mono (asc_prs cs ws [] (fun w hw2 => ⟨h w hw2, nil_lt_word (h w hw2)⟩) hw), fun p hp => phi_at (pw_prs cs ws hc) (List.mem_map.mpr ⟨p, hp, rfl⟩)⟩
end DL
end

section
set_option Elab.async false
set_option linter.all false
set_option maxRecDepth 100000
set_option autoImplicit false
set_option maxHeartbeats 4000000
namespace DL
open PySem PySem.Spec PyProof.Rows L2
def top (i : Nat) : Stmt := PySem.Challenge.pw_holebirth_k71_calls_by_names.main.body.getD i (.Pass ⟨0, 0, 0, 0⟩)
abbrev s_is_word : Stmt := top 13
def m_is_word : Gam → RS :=
  (retM (andM (isTyM .str (varM 0)) (andM (chainM leF leF (constM (.int 1)) (callM lenF (consA (varM 0) nilA)) (constM (.int 8))) (callM allF (consA (compM (srcZ (varM 0)) (tgN 1) yesM (fzL (bin (inF false) (varM 1) (constM (.str "abcdefghijklmnopqrstuvwxyz")))) [1] [1]) nilA)))))
def g_is_word : List Slot → R Val := gOf 1 2 m_is_word
theorem sc_is_word : FnScope ["thing", "letter"] ["thing"] (defScope s_is_word) := ⟨rfl, rfl, rfl, by decide +kernel, rfl, by decide +kernel, by decide +kernel⟩
abbrev s_is_number : Stmt := top 14
def m_is_number : Gam → RS :=
  (retM (andM (isTyM .int (varM 0)) (notM (isTyM .bl (varM 0)))))
def g_is_number : List Slot → R Val := gOf 1 1 m_is_number
theorem sc_is_number : FnScope ["thing"] ["thing"] (defScope s_is_number) := ⟨rfl, rfl, rfl, by decide +kernel, rfl, by decide +kernel, by decide +kernel⟩
abbrev s_is_among : Stmt := top 15
def m_is_among : Gam → RS :=
  (retM (andM (callM (callG g_is_number) (consA (varM 0) nilA)) (chainM leF leF (varM 1) (varM 0) (varM 2))))
def g_is_among : List Slot → R Val := gOf 3 3 m_is_among
theorem sc_is_among : FnScope ["thing", "least", "most"] ["thing", "least", "most"] (defScope s_is_among) := ⟨rfl, rfl, rfl, by decide +kernel, rfl, by decide +kernel, by decide +kernel⟩
abbrev s_are_rising : Stmt := top 16
def m_are_rising : Gam → RS :=
  (retM (callM allF (consA (compM (zipM (fzA (consD (varM 0) (consD (sliceM (varM 0) (partM (constM (.int 1))) noPart) nilD)))) (tgT 2 (tgCons (tgN 1) (tgCons (tgN 2) tgNil))) yesM (fzL (bin ltF (varM 1) (varM 2))) ([1] ++ ([2] ++ [])) [1, 2]) nilA)))
def g_are_rising : List Slot → R Val := gOf 1 3 m_are_rising
theorem sc_are_rising : FnScope ["items", "one", "other"] ["items"] (defScope s_are_rising) := ⟨rfl, rfl, rfl, by decide +kernel, rfl, by decide +kernel, by decide +kernel⟩
abbrev s_is_thing : Stmt := top 17
def m_is_thing : Gam → RS :=
  (seqM (ifS (orT (notT (testM (isTyM .tup (varM 0)))) (notT (testM (chainM leF leF (constM (.int 1)) (callM lenF (consA (varM 0) nilA)) (constM (.int 3))))))
    (retM (constM (.bool false)))
    nextM)
    (retM (andM (callM allF (consA (compM (srcZ (varM 0)) (tgN 1) yesM (fzL (callM (callG g_is_word) (consA (varM 1) nilA))) [1] [1]) nilA)) (callM (callG g_are_rising) (consA (varM 0) nilA)))))
def g_is_thing : List Slot → R Val := gOf 1 2 m_is_thing
theorem sc_is_thing : FnScope ["thing", "one"] ["thing"] (defScope s_is_thing) := ⟨rfl, rfl, rfl, by decide +kernel, rfl, by decide +kernel, by decide +kernel⟩
abbrev s_is_time : Stmt := top 18
def m_is_time : Gam → RS :=
  (retM (callM (callG g_is_among) (consA (varM 0) (consA (constM (.int 0)) (consA (constM (.int 40)) nilA)))))
def g_is_time : List Slot → R Val := gOf 1 1 m_is_time
theorem sc_is_time : FnScope ["thing"] ["thing"] (defScope s_is_time) := ⟨rfl, rfl, rfl, by decide +kernel, rfl, by decide +kernel, by decide +kernel⟩
abbrev s_need_time : Stmt := top 19
def m_need_time : Gam → RS :=
  (ifS (notT (testM (callM (callG g_is_time) (consA (varM 0) nilA))))
    (fun _ => .stuck)
    nextM)
def g_need_time : List Slot → R Val := gOf 1 1 m_need_time
theorem sc_need_time : FnScope ["time"] ["time"] (defScope s_need_time) := ⟨rfl, rfl, rfl, by decide +kernel, rfl, by decide +kernel, by decide +kernel⟩
abbrev s_sides_of : Stmt := top 20
def m_sides_of : Gam → RS :=
  (seqM (ifS (testM (bin (eqF false) (callM lenF (consA (varM 0) nilA)) (constM (.int 1))))
    (retM (lstM nilD))
    nextM)
    (retM (compM (rg1M (consA (callM lenF (consA (varM 0) nilA)) nilA)) (tgN 1) yesM (fzL (bin addF (sliceM (varM 0) noPart (partM (varM 1))) (sliceM (varM 0) (partM (bin addF (varM 1) (constM (.int 1)))) noPart))) [1] [1])))
def g_sides_of : List Slot → R Val := gOf 1 2 m_sides_of
theorem sc_sides_of : FnScope ["thing", "place"] ["thing"] (defScope s_sides_of) := ⟨rfl, rfl, rfl, by decide +kernel, rfl, by decide +kernel, by decide +kernel⟩
abbrev s_is_timed : Stmt := top 21
def m_is_timed : Gam → RS :=
  (retM (andM (isTyM .tup (varM 0)) (andM (bin (eqF false) (callM lenF (consA (varM 0) nilA)) (constM (.int 2))) (andM (callM (callG g_is_thing) (consA (bin ixF (varM 0) (constM (.int 0))) nilA)) (callM (callG g_is_time) (consA (bin ixF (varM 0) (constM (.int 1))) nilA))))))
def g_is_timed : List Slot → R Val := gOf 1 1 m_is_timed
theorem sc_is_timed : FnScope ["thing"] ["thing"] (defScope s_is_timed) := ⟨rfl, rfl, rfl, by decide +kernel, rfl, by decide +kernel, by decide +kernel⟩
abbrev s_lacking : Stmt := top 22
def m_lacking : Gam → RS :=
  (seqM (setM 1 (callM dictPTF (consA (varM 0) nilA)))
    (seqM (forM (srcZ (varM 0)) (tgT 2 (tgCons (tgN 2) (tgCons (tgN 3) tgNil)))
    (ifS (notT (testM (callM allF (consA (compM (srcZ (callM (callG g_sides_of) (consA (varM 2) nilA))) (tgN 4) yesM (fzL (andM (bin (inF false) (varM 4) (varM 1)) (bin leF (bin ixF (varM 1) (varM 4)) (varM 3)))) [4] [4]) nilA))))
    (retM (varM 2))
    nextM))
    (retM (constM .none))))
def g_lacking : List Slot → R Val := gOf 1 5 m_lacking
theorem sc_lacking : FnScope ["pairs", "held", "thing", "time", "side"] ["pairs"] (defScope s_lacking) := ⟨rfl, rfl, rfl, by decide +kernel, rfl, by decide +kernel, by decide +kernel⟩
abbrev s_need_items : Stmt := top 23
def m_need_items : Gam → RS :=
  (seqM (setM 1 (lstM nilD))
    (forM (enumM (fzA (consD (varM 0) nilD))) (tgT 2 (tgCons (tgN 2) (tgCons (tgN 3) tgNil)))
    (seqM (ifS (orT (notT (testM (callM (callG g_is_timed) (consA (varM 3) nilA)))) (testM (bin (inF false) (bin ixF (varM 3) (constM (.int 0))) (varM 1))))
    (fun _ => .stuck)
    nextM)
    (exprM (appendM 1 (bin ixF (varM 3) (constM (.int 0))))))))
def g_need_items : List Slot → R Val := gOf 1 4 m_need_items
theorem sc_need_items : FnScope ["things", "met", "number", "item"] ["things"] (defScope s_need_items) := ⟨rfl, rfl, rfl, by decide +kernel, rfl, by decide +kernel, by decide +kernel⟩
abbrev s_in_row : Stmt := top 24
def m_in_row : Gam → RS :=
  (seqM (asgM (varM 0) (tgT 2 (tgCons (tgN 1) (tgCons (tgN 2) tgNil))))
    (retM (tupM (consD (varM 2) (consD (callM lenF (consA (varM 1) nilA)) (consD (varM 1) nilD))))))
def g_in_row : List Slot → R Val := gOf 1 3 m_in_row
theorem sc_in_row : FnScope ["item", "thing", "time"] ["item"] (defScope s_in_row) := ⟨rfl, rfl, rfl, by decide +kernel, rfl, by decide +kernel, by decide +kernel⟩
abbrev s_need_kind : Stmt := top 28
def m_need_kind : Gam → RS :=
  (ifS (notT (testM (callM (callG g_is_among) (consA (varM 0) (consA (constM (.int 0)) (consA (constM (.int 2)) nilA))))))
    (fun _ => .stuck)
    nextM)
def g_need_kind : List Slot → R Val := gOf 1 1 m_need_kind
theorem sc_need_kind : FnScope ["kind"] ["kind"] (defScope s_need_kind) := ⟨rfl, rfl, rfl, by decide +kernel, rfl, by decide +kernel, by decide +kernel⟩
abbrev s_Picture_has : Stmt := inClass (top 25) 4
def m_Picture_has : Gam → RS :=
  (retM (andM (callM (callG g_is_thing) (consA (varM 1) nilA)) (bin (inF false) (varM 1) (fldM ["Picture"] "row" (varM 0)))))
def g_Picture_has : List Slot → R Val := gOf 2 2 m_Picture_has
theorem sc_Picture_has : FnScope ["self", "thing"] ["self", "thing"] (defScope s_Picture_has) := ⟨rfl, rfl, rfl, by decide +kernel, rfl, by decide +kernel, by decide +kernel⟩
abbrev s_is_chain : Stmt := top 29
def m_is_chain : Gam → RS :=
  (seqM (ifS (orT (notT (testM (isTyM .tup (varM 1)))) (notT (testM (callM allF (consA (compM (srcZ (varM 1)) (tgN 2) yesM (fzL (methM "Picture" "has" g_Picture_has (varM 0) (consA (varM 2) nilA))) [2] [2]) nilA)))))
    (retM (constM (.bool false)))
    nextM)
    (retM (andM (callM (callG g_are_rising) (consA (varM 1) nilA)) (callM allF (consA (compM (srcZ (varM 1)) (tgN 2) yesM (fzL (bin (eqF false) (callM lenF (consA (varM 2) nilA)) (callM lenF (consA (bin ixF (varM 1) (constM (.int 0))) nilA)))) [2] [2]) nilA)))))
def g_is_chain : List Slot → R Val := gOf 2 3 m_is_chain
theorem sc_is_chain : FnScope ["picture", "thing", "one"] ["picture", "thing"] (defScope s_is_chain) := ⟨rfl, rfl, rfl, by decide +kernel, rfl, by decide +kernel, by decide +kernel⟩
abbrev s_need_chain : Stmt := top 30
def m_need_chain : Gam → RS :=
  (ifS (notT (testM (callM (callG g_is_chain) (consA (varM 0) (consA (varM 1) nilA)))))
    (fun _ => .stuck)
    nextM)
def g_need_chain : List Slot → R Val := gOf 2 2 m_need_chain
theorem sc_need_chain : FnScope ["picture", "chain"] ["picture", "chain"] (defScope s_need_chain) := ⟨rfl, rfl, rfl, by decide +kernel, rfl, by decide +kernel, by decide +kernel⟩
abbrev s_number_in : Stmt := top 31
def m_number_in : Gam → RS :=
  (retM (indexM (fldK ["Picture"] "row" (varM 0)) (varM 1)))
def g_number_in : List Slot → R Val := gOf 2 2 m_number_in
theorem sc_number_in : FnScope ["picture", "thing"] ["picture", "thing"] (defScope s_number_in) := ⟨rfl, rfl, rfl, by decide +kernel, rfl, by decide +kernel, by decide +kernel⟩
abbrev s_figures_of : Stmt := top 32
def m_figures_of : Gam → RS :=
  (retM (callM sumF (consA (compM (srcZ (varM 1)) (tgN 2) yesM (fzL (bin shlF (constM (.int 1)) (callM (callG g_number_in) (consA (varM 0) (consA (varM 2) nilA))))) [2] [2]) nilA)))
def g_figures_of : List Slot → R Val := gOf 2 3 m_figures_of
theorem sc_figures_of : FnScope ["picture", "chain", "thing"] ["picture", "chain"] (defScope s_figures_of) := ⟨rfl, rfl, rfl, by decide +kernel, rfl, by decide +kernel, by decide +kernel⟩
abbrev s_chain_of : Stmt := top 33
def m_chain_of : Gam → RS :=
  (retM (callM tupF (consA (callM sortF (consA (compM (enumM (fzA (consD (fldM ["Picture"] "row" (varM 0)) nilD))) (tgT 2 (tgCons (tgN 2) (tgCons (tgN 3) tgNil))) (testM (bin (eqF false) (bin andF (bin shrF (varM 1) (varM 2)) (constM (.int 1))) (constM (.int 1)))) (fzL (varM 3)) ([2] ++ ([3] ++ [])) [2, 3]) nilA)) nilA)))
def g_chain_of : List Slot → R Val := gOf 2 4 m_chain_of
theorem sc_chain_of : FnScope ["picture", "figures", "number", "thing"] ["picture", "figures"] (defScope s_chain_of) := ⟨rfl, rfl, rfl, by decide +kernel, rfl, by decide +kernel, by decide +kernel⟩
abbrev s_last_of : Stmt := top 34
def m_last_of : Gam → RS :=
  (retM (bin subF (bitsM (varM 0)) (constM (.int 1))))
def g_last_of : List Slot → R Val := gOf 1 1 m_last_of
theorem sc_last_of : FnScope ["figures"] ["figures"] (defScope s_last_of) := ⟨rfl, rfl, rfl, by decide +kernel, rfl, by decide +kernel, by decide +kernel⟩
abbrev s_edges : Stmt := top 35
def m_edges : Gam → RS :=
  (retM (compM (srcZ (fldM ["Picture"] "row" (varM 0))) (tgN 1) yesM (fzL (callM (callG g_figures_of) (consA (varM 0) (consA (callM (callG g_sides_of) (consA (varM 1) nilA)) nilA)))) [1] [1]))
def g_edges : List Slot → R Val := gOf 1 2 m_edges
theorem sc_edges : FnScope ["picture", "thing"] ["picture"] (defScope s_edges) := ⟨rfl, rfl, rfl, by decide +kernel, rfl, by decide +kernel, by decide +kernel⟩
abbrev s_edge_of : Stmt := top 36
def m_edge_of : Gam → RS :=
  (seqM (setM 2 (constM (.int 0)))
    (seqM (forM (enumM (fzA (consD (callM (callG g_edges) (consA (varM 0) nilA)) nilD))) (tgT 2 (tgCons (tgN 3) (tgCons (tgN 4) tgNil)))
    (ifS (testM (bin (eqF false) (bin andF (bin shrF (varM 1) (varM 3)) (constM (.int 1))) (constM (.int 1))))
    (setM 2 (bin xorF (varM 2) (varM 4)))
    nextM))
    (retM (varM 2))))
def g_edge_of : List Slot → R Val := gOf 2 5 m_edge_of
theorem sc_edge_of : FnScope ["picture", "figures", "found", "number", "one"] ["picture", "figures"] (defScope s_edge_of) := ⟨rfl, rfl, rfl, by decide +kernel, rfl, by decide +kernel, by decide +kernel⟩
abbrev s_edge : Stmt := top 37
def m_edge : Gam → RS :=
  (seqM (exprM (callM (callG g_need_chain) (consA (varM 0) (consA (varM 1) nilA))))
    (retM (callM (callG g_chain_of) (consA (varM 0) (consA (callM (callG g_edge_of) (consA (varM 0) (consA (callM (callG g_figures_of) (consA (varM 0) (consA (varM 1) nilA))) nilA))) nilA)))))
def g_edge : List Slot → R Val := gOf 2 2 m_edge
theorem sc_edge : FnScope ["picture", "chain"] ["picture", "chain"] (defScope s_edge) := ⟨rfl, rfl, rfl, by decide +kernel, rfl, by decide +kernel, by decide +kernel⟩
abbrev s_is_ring : Stmt := top 38
def m_is_ring : Gam → RS :=
  (retM (bin (eqF false) (callM (callG g_edge) (consA (varM 0) (consA (varM 1) nilA))) (tupM nilD)))
def g_is_ring : List Slot → R Val := gOf 2 2 m_is_ring
theorem sc_is_ring : FnScope ["picture", "chain"] ["picture", "chain"] (defScope s_is_ring) := ⟨rfl, rfl, rfl, by decide +kernel, rfl, by decide +kernel, by decide +kernel⟩
abbrev s_numbers_there : Stmt := top 39
def m_numbers_there : Gam → RS :=
  (seqM (setM 3 (lstM nilD))
    (seqM (forM (enumM (fzA (consD (fldM ["Picture"] "row" (varM 0)) nilD))) (tgT 2 (tgCons (tgN 4) (tgCons (tgN 5) tgNil)))
    (ifS (andT (testM (bin (eqF false) (callM lenF (consA (varM 5) nilA)) (bin addF (varM 1) (constM (.int 1))))) (testM (bin leF (bin ixF (fldM ["Picture"] "times" (varM 0)) (varM 4)) (varM 2))))
    (exprM (appendM 3 (varM 4)))
    nextM))
    (retM (varM 3))))
def g_numbers_there : List Slot → R Val := gOf 3 6 m_numbers_there
theorem sc_numbers_there : FnScope ["picture", "kind", "time", "found", "number", "thing"] ["picture", "kind", "time"] (defScope s_numbers_there) := ⟨rfl, rfl, rfl, by decide +kernel, rfl, by decide +kernel, by decide +kernel⟩
abbrev s_Basis___init__ : Stmt := inClass (top 40) 0
def m_Basis___init__ : Gam → RS :=
  kinitM
def g_Basis___init__ : List Slot → R Val := gOf 1 1 m_Basis___init__
theorem sc_Basis___init__ : FnScope ["self"] ["self"] (defScope s_Basis___init__) := ⟨rfl, rfl, rfl, by decide +kernel, rfl, by decide +kernel, by decide +kernel⟩
abbrev s_Basis_reduced : Stmt := inClass (top 40) 1
def m_Basis_reduced : Gam → RS :=
  (seqM (fun Γ => whileGo (andT (testM (bin (eqF true) (varM 1) (constM (.int 0)))) (testM (kinM (callM (callG g_last_of) (consA (varM 1) nilA)))))
    (seqM (asgM (kgetM g_last_of 1) (tgT 2 (tgCons (tgN 3) (tgCons (tgN 4) tgNil))))
    (par2M 1 2 (bin xorF (varM 1) (varM 3)) (bin xorF (varM 2) (varM 4)))) 1000 Γ)
    (retM (tupM (consD (varM 1) (consD (varM 2) nilD)))))
def g_Basis_reduced : List Slot → R Val := gOf 3 5 m_Basis_reduced
theorem sc_Basis_reduced : FnScope ["self", "figures", "chain", "far", "other"] ["self", "figures", "chain"] (defScope s_Basis_reduced) := ⟨rfl, rfl, rfl, by decide +kernel, rfl, by decide +kernel, by decide +kernel⟩
abbrev s_Basis_take : Stmt := inClass (top 40) 2
def m_Basis_take : Gam → RS :=
  (seqM (asgM (methM "Basis" "reduced" g_Basis_reduced (varM 0) (consA (varM 1) (consA (varM 2) nilA))) (tgT 2 (tgCons (tgN 1) (tgCons (tgN 2) tgNil))))
    (seqM (ifS (testM (bin (eqF true) (varM 1) (constM (.int 0))))
    (kputM g_last_of 1 (tupM (consD (varM 1) (consD (varM 2) nilD))))
    nextM)
    (retM (tupM (consD (varM 1) (consD (varM 2) nilD))))))
def g_Basis_take : List Slot → R Val := gOf 3 3 m_Basis_take
theorem sc_Basis_take : FnScope ["self", "figures", "chain"] ["self", "figures", "chain"] (defScope s_Basis_take) := ⟨rfl, rfl, rfl, by decide +kernel, rfl, by decide +kernel, by decide +kernel⟩
abbrev s_basis_of : Stmt := top 41
def m_basis_of : Gam → RS :=
  (seqM (par2M 2 3 (callM (callG g_edges) (consA (varM 0) nilA)) (fun Γ => makeV "Basis" g_Basis___init__ Γ []))
    (seqM (forM (srcZ (varM 1)) (tgN 4)
    (exprM (methM "Basis" "take" g_Basis_take (varM 3) (consA (bin ixF (varM 2) (varM 4)) (consA (bin shlF (constM (.int 1)) (varM 4)) nilA)))))
    (retM (varM 3))))
def g_basis_of : List Slot → R Val := gOf 2 5 m_basis_of
theorem sc_basis_of : FnScope ["picture", "numbers", "alone", "found", "number"] ["picture", "numbers"] (defScope s_basis_of) := ⟨rfl, rfl, rfl, by decide +kernel, rfl, by decide +kernel, by decide +kernel⟩
abbrev s_need_ring : Stmt := top 42
def m_need_ring : Gam → RS :=
  (seqM (exprM (callM (callG g_need_chain) (consA (varM 0) (consA (varM 1) nilA))))
    (ifS (testM (bin (eqF true) (callM (callG g_edge_of) (consA (varM 0) (consA (callM (callG g_figures_of) (consA (varM 0) (consA (varM 1) nilA))) nilA))) (constM (.int 0))))
    (fun _ => .stuck)
    nextM))
def g_need_ring : List Slot → R Val := gOf 2 2 m_need_ring
theorem sc_need_ring : FnScope ["picture", "chain"] ["picture", "chain"] (defScope s_need_ring) := ⟨rfl, rfl, rfl, by decide +kernel, rfl, by decide +kernel, by decide +kernel⟩
abbrev s_filling : Stmt := top 43
def m_filling : Gam → RS :=
  (seqM (exprM (callM (callG g_need_ring) (consA (varM 0) (consA (varM 1) nilA))))
    (seqM (exprM (callM (callG g_need_time) (consA (varM 2) nilA)))
    (seqM (ifS (testM (bin (eqF false) (varM 1) (tupM nilD)))
    (retM (tupM nilD))
    nextM)
    (seqM (setM 3 (callM (callG g_basis_of) (consA (varM 0) (consA (callM (callG g_numbers_there) (consA (varM 0) (consA (callM lenF (consA (bin ixF (varM 1) (constM (.int 0))) nilA)) (consA (varM 2) nilA)))) nilA))))
    (seqM (asgM (methM "Basis" "reduced" g_Basis_reduced (varM 3) (consA (callM (callG g_figures_of) (consA (varM 0) (consA (varM 1) nilA))) (consA (constM (.int 0)) nilA))) (tgT 2 (tgCons (tgN 4) (tgCons (tgN 5) tgNil))))
    (retM (ifM (testM (bin (eqF false) (varM 4) (constM (.int 0)))) (callM (callG g_chain_of) (consA (varM 0) (consA (varM 5) nilA))) (constM .none))))))))
def g_filling : List Slot → R Val := gOf 3 6 m_filling
theorem sc_filling : FnScope ["picture", "chain", "time", "basis", "left", "found"] ["picture", "chain", "time"] (defScope s_filling) := ⟨rfl, rfl, rfl, by decide +kernel, rfl, by decide +kernel, by decide +kernel⟩
abbrev s_is_filled : Stmt := top 44
def m_is_filled : Gam → RS :=
  (retM (bin (isF' true) (callM (callG g_filling) (consA (varM 0) (consA (varM 1) (consA (varM 2) nilA)))) (constM .none)))
def g_is_filled : List Slot → R Val := gOf 3 3 m_is_filled
theorem sc_is_filled : FnScope ["picture", "chain", "time"] ["picture", "chain", "time"] (defScope s_is_filled) := ⟨rfl, rfl, rfl, by decide +kernel, rfl, by decide +kernel, by decide +kernel⟩
abbrev s_Basis_rank : Stmt := inClass (top 40) 3
def m_Basis_rank : Gam → RS :=
  (retM klenM)
def g_Basis_rank : List Slot → R Val := gOf 1 1 m_Basis_rank
theorem sc_Basis_rank : FnScope ["self"] ["self"] (defScope s_Basis_rank) := ⟨rfl, rfl, rfl, by decide +kernel, rfl, by decide +kernel, by decide +kernel⟩
abbrev s_holes : Stmt := top 45
def m_holes : Gam → RS :=
  (seqM (exprM (callM (callG g_need_kind) (consA (varM 1) nilA)))
    (seqM (exprM (callM (callG g_need_time) (consA (varM 2) nilA)))
    (seqM (setM 3 (callM (callG g_numbers_there) (consA (varM 0) (consA (varM 1) (consA (varM 2) nilA)))))
    (seqM (setM 4 (methM "Basis" "rank" g_Basis_rank (callM (callG g_basis_of) (consA (varM 0) (consA (callM (callG g_numbers_there) (consA (varM 0) (consA (bin addF (varM 1) (constM (.int 1))) (consA (varM 2) nilA)))) nilA))) nilA))
    (retM (bin subF (bin subF (callM lenF (consA (varM 3) nilA)) (methM "Basis" "rank" g_Basis_rank (callM (callG g_basis_of) (consA (varM 0) (consA (varM 3) nilA))) nilA)) (varM 4)))))))
def g_holes : List Slot → R Val := gOf 3 5 m_holes
theorem sc_holes : FnScope ["picture", "kind", "time", "here", "ends"] ["picture", "kind", "time"] (defScope s_holes) := ⟨rfl, rfl, rfl, by decide +kernel, rfl, by decide +kernel, by decide +kernel⟩
abbrev s_need_place : Stmt := top 48
def m_need_place : Gam → RS :=
  (ifS (notT (testM (callM (callG g_is_among) (consA (varM 1) (consA (constM (.int 0)) (consA (bin subF (callM lenF (consA (fldM ["Picture"] "row" (varM 0)) nilA)) (constM (.int 1))) nilA))))))
    (fun _ => .stuck)
    nextM)
def g_need_place : List Slot → R Val := gOf 2 2 m_need_place
theorem sc_need_place : FnScope ["picture", "number"] ["picture", "number"] (defScope s_need_place) := ⟨rfl, rfl, rfl, by decide +kernel, rfl, by decide +kernel, by decide +kernel⟩
abbrev s_Pairing_enders : Stmt := inClass (top 47) 1
def m_Pairing_enders : Gam → RS :=
  (retM (lvalsM (fldM ["Pairing"] "ends" (varM 0))))
def g_Pairing_enders : List Slot → R Val := gOf 1 1 m_Pairing_enders
theorem sc_Pairing_enders : FnScope ["self"] ["self"] (defScope s_Pairing_enders) := ⟨rfl, rfl, rfl, by decide +kernel, rfl, by decide +kernel, by decide +kernel⟩
abbrev s_Pairing___init__ : Stmt := inClass (top 47) 0
def m_Pairing___init__ : Gam → RS :=
  (seqM pinitM
    (seqM (setM 2 (fun Γ => makeV "Basis" g_Basis___init__ Γ []))
    (seqM (forM (enumM (fzA (consD (callM (callG g_edges) (consA (varM 1) nilA)) nilD))) (tgT 2 (tgCons (tgN 3) (tgCons (tgN 4) tgNil)))
    (seqM (asgM (methM "Basis" "take" g_Basis_take (varM 2) (consA (varM 4) (consA (bin shlF (constM (.int 1)) (varM 3)) nilA))) (tgT 2 (tgCons (tgN 5) (tgCons (tgN 6) tgNil))))
    (seqM (pappM 6)
    (ifS (testM (bin (eqF true) (varM 5) (constM (.int 0))))
    (pputM g_last_of 5 3)
    nextM))))
    pendM)))
def g_Pairing___init__ : List Slot → R Val := gOf 2 7 m_Pairing___init__
theorem sc_Pairing___init__ : FnScope ["self", "picture", "basis", "number", "alone", "left", "chain"] ["self", "picture"] (defScope s_Pairing___init__) := ⟨rfl, rfl, rfl, by decide +kernel, rfl, by decide +kernel, by decide +kernel⟩
abbrev s_begins : Stmt := top 49
def m_begins : Gam → RS :=
  (seqM (exprM (callM (callG g_need_place) (consA (varM 0) (consA (varM 1) nilA))))
    (retM (bin (inF true) (varM 1) (methM "Pairing" "enders" g_Pairing_enders (callM (makeV "Pairing" g_Pairing___init__) (consA (varM 0) nilA)) nilA))))
def g_begins : List Slot → R Val := gOf 2 2 m_begins
theorem sc_begins : FnScope ["picture", "number"] ["picture", "number"] (defScope s_begins) := ⟨rfl, rfl, rfl, by decide +kernel, rfl, by decide +kernel, by decide +kernel⟩
abbrev s_ended_by : Stmt := top 50
def m_ended_by : Gam → RS :=
  (seqM (exprM (callM (callG g_need_place) (consA (varM 0) (consA (varM 1) nilA))))
    (retM (getM (fldM ["Pairing"] "ends" (callM (makeV "Pairing" g_Pairing___init__) (consA (varM 0) nilA))) (varM 1))))
def g_ended_by : List Slot → R Val := gOf 2 2 m_ended_by
theorem sc_ended_by : FnScope ["picture", "number"] ["picture", "number"] (defScope s_ended_by) := ⟨rfl, rfl, rfl, by decide +kernel, rfl, by decide +kernel, by decide +kernel⟩
abbrev s_bars : Stmt := top 51
def m_bars : Gam → RS :=
  (seqM (exprM (callM (callG g_need_kind) (consA (varM 1) nilA)))
    (seqM (setM 2 (lstM nilD))
    (seqM (forM (itemsM (fldM ["Pairing"] "ends" (callM (makeV "Pairing" g_Pairing___init__) (consA (varM 0) nilA)))) (tgT 2 (tgCons (tgN 3) (tgCons (tgN 4) tgNil)))
    (ifS (andT (testM (bin (eqF false) (callM lenF (consA (bin ixF (fldM ["Picture"] "row" (varM 0)) (varM 3)) nilA)) (bin addF (varM 1) (constM (.int 1))))) (testM (bin (eqF true) (bin ixF (fldM ["Picture"] "times" (varM 0)) (varM 3)) (bin ixF (fldM ["Picture"] "times" (varM 0)) (varM 4)))))
    (exprM (appendM 2 (tupM (consD (bin ixF (fldM ["Picture"] "times" (varM 0)) (varM 3)) (consD (bin ixF (fldM ["Picture"] "times" (varM 0)) (varM 4)) nilD)))))
    nextM))
    (retM (callM tupF (consA (callM sortF (consA (varM 2) nilA)) nilA))))))
def g_bars : List Slot → R Val := gOf 2 5 m_bars
theorem sc_bars : FnScope ["picture", "kind", "found", "birth", "death"] ["picture", "kind"] (defScope s_bars) := ⟨rfl, rfl, rfl, by decide +kernel, rfl, by decide +kernel, by decide +kernel⟩
abbrev s_lasting : Stmt := top 52
def m_lasting : Gam → RS :=
  (seqM (exprM (callM (callG g_need_kind) (consA (varM 1) nilA)))
    (seqM (par2M 2 3 (callM (makeV "Pairing" g_Pairing___init__) (consA (varM 0) nilA)) (lstM nilD))
    (seqM (setM 4 (methM "Pairing" "enders" g_Pairing_enders (varM 2) nilA))
    (seqM (forM (enumM (fzA (consD (fldM ["Picture"] "row" (varM 0)) nilD))) (tgT 2 (tgCons (tgN 5) (tgCons (tgN 6) tgNil)))
    (ifS (andT (testM (bin (eqF false) (callM lenF (consA (varM 6) nilA)) (bin addF (varM 1) (constM (.int 1))))) (andT (testM (bin (inF true) (varM 5) (varM 4))) (testM (bin (inF true) (varM 5) (fldM ["Pairing"] "ends" (varM 2))))))
    (exprM (appendM 3 (bin ixF (fldM ["Picture"] "times" (varM 0)) (varM 5))))
    nextM))
    (retM (callM tupF (consA (varM 3) nilA)))))))
def g_lasting : List Slot → R Val := gOf 2 7 m_lasting
theorem sc_lasting : FnScope ["picture", "kind", "pairing", "found", "enders", "number", "thing"] ["picture", "kind"] (defScope s_lasting) := ⟨rfl, rfl, rfl, by decide +kernel, rfl, by decide +kernel, by decide +kernel⟩
abbrev s_showings : Stmt := top 53
def m_showings : Gam → RS :=
  (retM (callM tupF (consA (compM (srcZ (fldM ["Pairing"] "chains" (callM (makeV "Pairing" g_Pairing___init__) (consA (varM 0) nilA)))) (tgN 1) yesM (fzL (callM (callG g_chain_of) (consA (varM 0) (consA (varM 1) nilA)))) [1] [1]) nilA)))
def g_showings : List Slot → R Val := gOf 1 2 m_showings
theorem sc_showings : FnScope ["picture", "chain"] ["picture"] (defScope s_showings) := ⟨rfl, rfl, rfl, by decide +kernel, rfl, by decide +kernel, by decide +kernel⟩
abbrev s_is_last : Stmt := top 54
def m_is_last : Gam → RS :=
  (seqM (ifS (orT (notT (testM (callM (callG g_is_chain) (consA (varM 0) (consA (varM 1) nilA))))) (orT (testM (bin (eqF false) (varM 1) (tupM nilD))) (testM (bin (eqF true) (callM lenF (consA (bin ixF (varM 1) (constM (.int 0))) nilA)) (callM lenF (consA (bin ixF (fldM ["Picture"] "row" (varM 0)) (varM 2)) nilA))))))
    (retM (constM (.bool false)))
    nextM)
    (retM (bin (eqF false) (callM maxF (consA (compM (srcZ (varM 1)) (tgN 3) yesM (fzL (callM (callG g_number_in) (consA (varM 0) (consA (varM 3) nilA)))) [3] [3]) nilA)) (varM 2))))
def g_is_last : List Slot → R Val := gOf 3 4 m_is_last
theorem sc_is_last : FnScope ["picture", "chain", "number", "thing"] ["picture", "chain", "number"] (defScope s_is_last) := ⟨rfl, rfl, rfl, by decide +kernel, rfl, by decide +kernel, by decide +kernel⟩
abbrev s_check : Stmt := top 55
def m_check : Gam → RS :=
  (seqM (ifS (orT (notT (testM (isTyM .tup (varM 1)))) (testM (bin (eqF true) (callM lenF (consA (varM 1) nilA)) (callM lenF (consA (fldM ["Picture"] "row" (varM 0)) nilA)))))
    (fun _ => .stuck)
    nextM)
    (seqM (setM 2 (lstM nilD))
    (seqM (forM (enumM (fzA (consD (varM 1) nilD))) (tgT 2 (tgCons (tgN 3) (tgCons (tgN 4) tgNil)))
    (seqM (ifS (notT (testM (callM (callG g_is_last) (consA (varM 0) (consA (varM 4) (consA (varM 3) nilA))))))
    (fun _ => .stuck)
    nextM)
    (seqM (setM 5 (callM (callG g_edge_of) (consA (varM 0) (consA (callM (callG g_figures_of) (consA (varM 0) (consA (varM 4) nilA))) nilA))))
    (ifS (testM (bin (eqF true) (varM 5) (constM (.int 0))))
    (seqM (ifS (testM (bin (inF false) (callM (callG g_last_of) (consA (varM 5) nilA)) (varM 2)))
    (fun _ => .stuck)
    nextM)
    (exprM (appendM 2 (callM (callG g_last_of) (consA (varM 5) nilA)))))
    nextM))))
    (retM (bin subF (callM lenF (consA (varM 1) nilA)) (callM lenF (consA (varM 2) nilA)))))))
def g_check : List Slot → R Val := gOf 2 6 m_check
theorem sc_check : FnScope ["picture", "thing", "met", "number", "chain", "left"] ["picture", "thing"] (defScope s_check) := ⟨rfl, rfl, rfl, by decide +kernel, rfl, by decide +kernel, by decide +kernel⟩
abbrev s_Picture___init__ : Stmt := inClass (top 25) 0
def m_Picture___init__ : Gam → RS :=
  (seqM (ifS (orT (notT (testM (isTy2M .lst .tup (varM 1)))) (notT (testM (chainM leF leF (constM (.int 1)) (callM lenF (consA (varM 1) nilA)) (constM (.int 22))))))
    (fun _ => .stuck)
    nextM)
    (seqM (exprM (callM (callG g_need_items) (consA (varM 1) nilA)))
    (seqM (ifS (testM (bin gtF (callM lenF (consA (compM (srcZ (varM 1)) (tgT 2 (tgCons (tgN 2) (tgCons (tgN 3) tgNil))) (testM (bin (eqF false) (callM lenF (consA (varM 2) nilA)) (constM (.int 1)))) (fzL (constM (.int 1))) ([2] ++ ([3] ++ [])) [2, 3]) nilA)) (constM (.int 7))))
    (fun _ => .stuck)
    nextM)
    (seqM (setM 4 (callM (callG g_lacking) (consA (varM 1) nilA)))
    (seqM (ifS (testM (bin (isF' true) (varM 4) (constM .none)))
    (fun _ => .stuck)
    nextM)
    (seqM (setM 5 (sortKM g_in_row (varM 1)))
    (seqM (fldS "Picture" "row" 0 (callM tupKF (consA (compM (srcZ (varM 5)) (tgT 2 (tgCons (tgN 2) (tgCons (tgN 3) tgNil))) yesM (fzL (varM 2)) ([2] ++ ([3] ++ [])) [2, 3]) nilA)))
    (fldS "Picture" "times" 0 (callM tupF (consA (compM (srcZ (varM 5)) (tgT 2 (tgCons (tgN 2) (tgCons (tgN 3) tgNil))) yesM (fzL (varM 3)) ([2] ++ ([3] ++ [])) [2, 3]) nilA))))))))))
def g_Picture___init__ : List Slot → R Val := gOf 2 6 m_Picture___init__
theorem sc_Picture___init__ : FnScope ["self", "things", "thing", "time", "wrong", "pairs"] ["self", "things"] (defScope s_Picture___init__) := ⟨rfl, rfl, rfl, by decide +kernel, rfl, by decide +kernel, by decide +kernel⟩
abbrev s_Picture___eq__ : Stmt := inClass (top 25) 2
def m_Picture___eq__ : Gam → RS :=
  (retM (andM (isClM "Picture" (varM 1)) (bin (eqF false) (tupM (consD (fldM ["Picture"] "row" (varM 0)) (consD (fldM ["Picture"] "times" (varM 0)) nilD))) (tupM (consD (fldM ["Picture"] "row" (varM 1)) (consD (fldM ["Picture"] "times" (varM 1)) nilD))))))
def g_Picture___eq__ : List Slot → R Val := gOf 2 2 m_Picture___eq__
theorem sc_Picture___eq__ : FnScope ["self", "other"] ["self", "other"] (defScope s_Picture___eq__) := ⟨rfl, rfl, rfl, by decide +kernel, rfl, by decide +kernel, by decide +kernel⟩
abbrev s__law_begun : Stmt := top 57
def m__law_begun : Gam → RS :=
  (retM (rnewM (callM listF (consA (varM 0) nilA)) (compM (srcM' (varM 0)) (tgN 1) (testM (bin geF (varM 1) (bin powF (constM (.int 10)) (constM (.int 18))))) (fzL (varM 1)) [1] [1])))
def g__law_begun : List Slot → R Val := gOf 1 2 m__law_begun
theorem sc__law_begun : FnScope ["_law_script", "_law_cell"] ["_law_script"] (defScope s__law_begun) := ⟨rfl, rfl, rfl, by decide +kernel, rfl, by decide +kernel, by decide +kernel⟩
abbrev s__law_next : Stmt := top 58
def m__law_next : Gam → RS :=
  (seqM (fun Γ => whileGo (andT rneM (testM (bin (eqF false) rleft0M (constM (.int 0)))))
    rcutM 1000 Γ)
    (seqM (ifS rneM
    (seqM (setM 2 rleft0M)
    (seqM (rputM (bin fdivF (varM 2) (varM 1)))
    (retM (bin modF (callM int1F (consA (varM 2) nilA)) (varM 1)))))
    nextM)
    (seqM (par2M 3 4 (bin addF ratM (constM (.int 1))) rcellsM)
    (seqM (rsetatM 3)
    (seqM (setM 5 (ifM (testM (bin (eqF true) (varM 4) (lstM nilD))) (callM int1F (consA (bin ixF (varM 4) (bin modF (callM int1F (consA (bin addF (bin mulF (varM 3) (varM 3)) (bin fdivF (varM 3) (constM (.int 2)))) nilA)) (callM lenF (consA (varM 4) nilA)))) nilA)) (constM (.int 5))))
    (seqM (setM 6 (bin modF (callM int1F (consA (bin addF (bin addF (bin mulF (varM 5) (constM (.int 40692))) (bin mulF (varM 3) (constM (.int 65539)))) (bin mulF (bin mulF (constM (.int 7001)) (varM 3)) (varM 3))) nilA)) (constM (.int 2147483399))))
    (retM (bin modF (callM int1F (consA (bin fdivF (bin modF (callM int1F (consA (bin addF (bin mulF (varM 6) (constM (.int 48271))) (bin mulF (constM (.int 1013)) (varM 3))) nilA)) (constM (.int 2147483647))) (constM (.int 13))) nilA)) (varM 1)))))))))
def g__law_next : List Slot → R Val := gOf 2 7 m__law_next
theorem sc__law_next : FnScope ["_law_m", "_law_many", "_law_rest", "_law_at", "_law_bits", "_law_cell", "_law_blend"] ["_law_m", "_law_many"] (defScope s__law_next) := ⟨rfl, rfl, rfl, by decide +kernel, rfl, by decide +kernel, by decide +kernel⟩
abbrev s__law_names : Stmt := top 59
def m__law_names : Gam → RS :=
  (seqM (asgM (tupM (consD (constM (.str "abcdefghijklmnopqrstuvwxyz")) (consD (constM (.str "")) nilD))) (tgT 2 (tgCons (tgN 2) (tgCons (tgN 3) tgNil))))
    (seqM (forM (rg1M (consA (callM (callG g__law_next) (consA (varM 0) (consA (constM (.int 8)) nilA))) nilA)) (tgN 4)
    (setM 3 (bin addF (varM 3) (bin ixF (varM 2) (callM (callG g__law_next) (consA (varM 0) (consA (constM (.int 26)) nilA)))))))
    (seqM (asgM (tupM (consD (callM (callG g__law_next) (consA (varM 0) (consA (bin addF (callM lenF (consA (varM 3) nilA)) (constM (.int 1))) nilA))) (consD (callM (callG g__law_next) (consA (varM 0) (consA (constM (.int 26)) nilA))) (consD (bin ixF (lstM (consD (constM (.int 1)) (consD (constM (.int 3)) (consD (constM (.int 5)) (consD (constM (.int 7)) (consD (constM (.int 9)) (consD (constM (.int 11)) nilD))))))) (callM (callG g__law_next) (consA (varM 0) (consA (constM (.int 6)) nilA)))) nilD)))) (tgT 3 (tgCons (tgN 5) (tgCons (tgN 6) (tgCons (tgN 7) tgNil)))))
    (seqM (setM 8 (sliceM (bin addF (varM 3) (bin mulF (bin ixF (varM 2) (varM 6)) (constM (.int 8)))) noPart (partM (constM (.int 8)))))
    (seqM (ifS (andT (testM (bin gtF (varM 7) (constM (.int 5)))) (testM (bin ltF (varM 1) (constM (.int 9)))))
    (retM (compM (rg1M (consA (varM 1) nilA)) (tgN 4) yesM (fzL (ifM (testM (bin gtF (varM 7) (constM (.int 7)))) (sliceM (varM 8) (partM (varM 4)) noPart) (sliceM (varM 8) noPart (partM (bin subF (bin addF (varM 4) (constM (.int 9))) (varM 1)))))) [4] [4]))
    nextM)
    (retM (compM (rg1M (consA (varM 1) nilA)) (tgN 4) yesM (fzL (bin addF (bin addF (sliceM (varM 3) noPart (partM (varM 5))) (bin ixF (varM 2) (bin modF (callM int1F (consA (bin addF (varM 6) (bin mulF (varM 7) (varM 4))) nilA)) (constM (.int 26))))) (sliceM (varM 3) (partM (varM 5)) noPart))) [4] [4])))))))
def g__law_names : List Slot → R Val := gOf 2 9 m__law_names
theorem sc__law_names : FnScope ["_law_m", "_law_many", "_law_letters", "_law_stem", "_law_k", "_law_at", "_law_first", "_law_by", "_law_word"] ["_law_m", "_law_many"] (defScope s__law_names) := ⟨rfl, rfl, rfl, by decide +kernel, rfl, by decide +kernel, by decide +kernel⟩
abbrev s_Picture_pairs : Stmt := inClass (top 25) 3
def m_Picture_pairs : Gam → RS :=
  (retM (listZipM (fzA (consD (fldM ["Picture"] "row" (varM 0)) (consD (fldM ["Picture"] "times" (varM 0)) nilD)))))
def g_Picture_pairs : List Slot → R Val := gOf 1 1 m_Picture_pairs
theorem sc_Picture_pairs : FnScope ["self"] ["self"] (defScope s_Picture_pairs) := ⟨rfl, rfl, rfl, by decide +kernel, rfl, by decide +kernel, by decide +kernel⟩
abbrev s_Picture_with_thing : Stmt := inClass (top 25) 6
def m_Picture_with_thing : Gam → RS :=
  (seqM (ifS (testM (bin (eqF false) (callM lenF (consA (fldM ["Picture"] "row" (varM 0)) nilA)) (constM (.int 22))))
    (fun _ => .stuck)
    nextM)
    (retM (callM (makeV "Picture" g_Picture___init__) (consA (lstM (starD (methM "Picture" "pairs" g_Picture_pairs (varM 0) nilA) (consD (tupM (consD (varM 1) (consD (varM 2) nilD))) nilD))) nilA))))
def g_Picture_with_thing : List Slot → R Val := gOf 3 3 m_Picture_with_thing
theorem sc_Picture_with_thing : FnScope ["self", "thing", "time"] ["self", "thing", "time"] (defScope s_Picture_with_thing) := ⟨rfl, rfl, rfl, by decide +kernel, rfl, by decide +kernel, by decide +kernel⟩
abbrev s_Picture_need_thing : Stmt := inClass (top 25) 5
def m_Picture_need_thing : Gam → RS :=
  (ifS (notT (testM (methM "Picture" "has" g_Picture_has (varM 0) (consA (varM 1) nilA))))
    (fun _ => .stuck)
    nextM)
def g_Picture_need_thing : List Slot → R Val := gOf 2 2 m_Picture_need_thing
theorem sc_Picture_need_thing : FnScope ["self", "thing"] ["self", "thing"] (defScope s_Picture_need_thing) := ⟨rfl, rfl, rfl, by decide +kernel, rfl, by decide +kernel, by decide +kernel⟩
abbrev s_Picture_timed : Stmt := inClass (top 25) 8
def m_Picture_timed : Gam → RS :=
  (seqM (exprM (methM "Picture" "need_thing" g_Picture_need_thing (varM 0) (consA (varM 1) nilA)))
    (seqM (exprM (callM (callG g_need_time) (consA (varM 2) nilA)))
    (seqM (setM 3 (compM (srcZ (methM "Picture" "pairs" g_Picture_pairs (varM 0) nilA)) (tgT 2 (tgCons (tgN 4) (tgCons (tgN 5) tgNil))) yesM (fzL (tupM (consD (varM 4) (consD (ifM (testM (bin (eqF false) (varM 4) (varM 1))) (varM 2) (varM 5)) nilD)))) ([4] ++ ([5] ++ [])) [4, 5]))
    (seqM (setM 6 (callM (callG g_lacking) (consA (varM 3) nilA)))
    (seqM (ifS (testM (bin (isF' true) (varM 6) (constM .none)))
    (fun _ => .stuck)
    nextM)
    (retM (callM (makeV "Picture" g_Picture___init__) (consA (varM 3) nilA))))))))
def g_Picture_timed : List Slot → R Val := gOf 3 7 m_Picture_timed
theorem sc_Picture_timed : FnScope ["self", "thing", "time", "pairs", "one", "old", "wrong"] ["self", "thing", "time"] (defScope s_Picture_timed) := ⟨rfl, rfl, rfl, by decide +kernel, rfl, by decide +kernel, by decide +kernel⟩
abbrev s_Picture_without : Stmt := inClass (top 25) 7
def m_Picture_without : Gam → RS :=
  (seqM (exprM (methM "Picture" "need_thing" g_Picture_need_thing (varM 0) (consA (varM 1) nilA)))
    (seqM (ifS (orT (testM (bin (eqF false) (callM lenF (consA (fldM ["Picture"] "row" (varM 0)) nilA)) (constM (.int 1)))) (testM (callM anyF (consA (compM (srcZ (fldM ["Picture"] "row" (varM 0))) (tgN 2) yesM (fzL (bin (inF false) (varM 1) (callM (callG g_sides_of) (consA (varM 2) nilA)))) [2] [2]) nilA))))
    (fun _ => .stuck)
    nextM)
    (retM (callM (makeV "Picture" g_Picture___init__) (consA (compM (srcZ (methM "Picture" "pairs" g_Picture_pairs (varM 0) nilA)) (tgN 3) (testM (bin (eqF true) (bin ixF (varM 3) (constM (.int 0))) (varM 1))) (fzL (varM 3)) [3] [3]) nilA)))))
def g_Picture_without : List Slot → R Val := gOf 2 4 m_Picture_without
theorem sc_Picture_without : FnScope ["self", "thing", "other", "pair"] ["self", "thing"] (defScope s_Picture_without) := ⟨rfl, rfl, rfl, by decide +kernel, rfl, by decide +kernel, by decide +kernel⟩
abbrev s__law_first_right : Stmt := top 60
def m__law_first_right : Gam → RS :=
  (seqM (ifS (orT (testM (bin (ownF "Picture" g_Picture___eq__ true) (makeKM "Picture" g_Picture___init__ 1 [0] (consD (lstM (consD (tupM (consD (tupM (consD (varM 0) nilD)) (consD (constM (.int 0)) nilD))) (consD (tupM (consD (tupM (consD (varM 1) nilD)) (consD (constM (.int 1)) nilD))) (consD (tupM (consD (tupM (consD (varM 0) (consD (varM 1) nilD))) (consD (constM (.int 2)) nilD))) nilD)))) nilD)) (varM 2))) (testM (bin (ownF "Picture" g_Picture___eq__ true) (methKM "Picture" "timed" g_Picture_timed 2 [1, 0] (varM 2) (consD (constM (.int 2)) (consD (tupM (consD (varM 0) (consD (varM 1) nilD))) nilD))) (varM 2))))
    (retM (constM (.bool false)))
    nextM)
    (seqM (ifS (testM (bin (ownF "Picture" g_Picture___eq__ true) (methKM "Picture" "with_thing" g_Picture_with_thing 2 [1, 0] (methKM "Picture" "without" g_Picture_without 1 [0] (varM 2) (consD (tupM (consD (varM 0) (consD (varM 1) nilD))) nilD)) (consD (constM (.int 2)) (consD (tupM (consD (varM 0) (consD (varM 1) nilD))) nilD))) (varM 2)))
    (retM (constM (.bool false)))
    nextM)
    (seqM (ifS (testM (bin (isF' true) (callKM g_is_chain 2 [1, 0] (consD (tupM (consD (tupM (consD (varM 0) nilD)) nilD)) (consD (varM 2) nilD))) (constM (.bool true))))
    (retM (constM (.bool false)))
    nextM)
    (seqM (ifS (orT (testM (bin (eqF true) (callKM g_edge 2 [1, 0] (consD (tupM (consD (tupM (consD (varM 0) (consD (varM 1) nilD))) nilD)) (consD (varM 2) nilD))) (tupM (consD (tupM (consD (varM 0) nilD)) (consD (tupM (consD (varM 1) nilD)) nilD))))) (testM (bin (isF' true) (callKM g_is_ring 2 [1, 0] (consD (tupM (consD (tupM (consD (varM 1) nilD)) nilD)) (consD (varM 2) nilD))) (constM (.bool true)))))
    (retM (constM (.bool false)))
    nextM)
    (seqM (ifS (orT (testM (bin (isF' true) (callKM g_is_filled 3 [2, 1, 0] (consD (constM (.int 2)) (consD (tupM (consD (tupM (consD (varM 0) nilD)) (consD (tupM (consD (varM 1) nilD)) nilD))) (consD (varM 2) nilD)))) (constM (.bool true)))) (testM (bin (eqF true) (callKM g_holes 3 [2, 1, 0] (consD (constM (.int 1)) (consD (constM (.int 0)) (consD (varM 2) nilD)))) (constM (.int 2)))))
    (retM (constM (.bool false)))
    nextM)
    (retM (bin (eqF false) (callKM g_filling 3 [2, 1, 0] (consD (constM (.int 2)) (consD (tupM (consD (tupM (consD (varM 0) nilD)) (consD (tupM (consD (varM 1) nilD)) nilD))) (consD (varM 2) nilD)))) (tupM (consD (tupM (consD (varM 0) (consD (varM 1) nilD))) nilD)))))))))
def g__law_first_right : List Slot → R Val := gOf 3 3 m__law_first_right
theorem sc__law_first_right : FnScope ["_law_a", "_law_b", "_law_view"] ["_law_a", "_law_b", "_law_view"] (defScope s__law_first_right) := ⟨rfl, rfl, rfl, by decide +kernel, rfl, by decide +kernel, by decide +kernel⟩
abbrev s__law_second_right : Stmt := top 61
def m__law_second_right : Gam → RS :=
  (seqM (ifS (orT (testM (bin (isF' true) (callKM g_begins 2 [1, 0] (consD (constM (.int 0)) (consD (varM 0) nilD))) (constM (.bool true)))) (testM (bin (eqF true) (callKM g_ended_by 2 [1, 0] (consD (constM (.int 1)) (consD (varM 0) nilD))) (constM (.int 2)))))
    (retM (constM (.bool false)))
    nextM)
    (seqM (ifS (orT (testM (bin (eqF true) (callKM g_bars 2 [1, 0] (consD (constM (.int 0)) (consD (varM 0) nilD))) (tupM (consD (tupM (consD (constM (.int 1)) (consD (constM (.int 2)) nilD))) nilD)))) (testM (bin (eqF true) (callKM g_lasting 2 [1, 0] (consD (constM (.int 0)) (consD (varM 0) nilD))) (tupM (consD (constM (.int 0)) nilD)))))
    (retM (constM (.bool false)))
    nextM)
    (retM (bin (eqF false) (callKM g_check 2 [1, 0] (consD (callKM g_showings 1 [0] (consD (varM 0) nilD)) (consD (varM 0) nilD))) (constM (.int 2))))))
def g__law_second_right : List Slot → R Val := gOf 1 1 m__law_second_right
theorem sc__law_second_right : FnScope ["_law_view"] ["_law_view"] (defScope s__law_second_right) := ⟨rfl, rfl, rfl, by decide +kernel, rfl, by decide +kernel, by decide +kernel⟩
abbrev s_law : Stmt := top 62
def m_law : Gam → RS :=
  (seqM (setM 1 (callW g__law_begun 0))
    (seqM (forM (rg1M (consA (bin addF (constM (.int 1)) (callM min2F (consA (callM lenF (consA (varM 0) nilA)) (consA (constM (.int 4)) nilA)))) nilA)) (tgN 2)
    (seqM (asgM (callM sortF (consA (callM (callG g__law_names) (consA (varM 1) (consA (constM (.int 2)) nilA))) nilA)) (tgTL 2 (tgCons (tgN 4) (tgCons (tgN 5) tgNil))))
    (seqM (setM 3 (callM (makeV "Picture" g_Picture___init__) (consA (lstM (consD (tupM (consD (tupM (consD (varM 4) nilD)) (consD (constM (.int 0)) nilD))) (consD (tupM (consD (tupM (consD (varM 5) nilD)) (consD (constM (.int 1)) nilD))) (consD (tupM (consD (tupM (consD (varM 4) (consD (varM 5) nilD))) (consD (constM (.int 2)) nilD))) nilD)))) nilA)))
    (ifS (orT (notT (testM (callM (callG g__law_first_right) (consA (varM 4) (consA (varM 5) (consA (varM 3) nilA)))))) (notT (testM (callM (callG g__law_second_right) (consA (varM 3) nilA)))))
    (retM (constM (.bool false)))
    nextM))))
    (retM (constM (.bool true)))))
def g_law : List Slot → R Val := gOf 1 6 m_law
theorem sc_law : FnScope ["_law_script", "_law_m", "_law_turn", "_law_view", "_law_a", "_law_b"] ["_law_script"] (defScope s_law) := ⟨rfl, rfl, rfl, by decide +kernel, rfl, by decide +kernel, by decide +kernel⟩
abbrev s_Picture___len__ : Stmt := inClass (top 25) 1
def m_Picture___len__ : Gam → RS :=
  (retM (callM lenF (consA (fldM ["Picture"] "row" (varM 0)) nilA)))
def g_Picture___len__ : List Slot → R Val := gOf 1 1 m_Picture___len__
theorem sc_Picture___len__ : FnScope ["self"] ["self"] (defScope s_Picture___len__) := ⟨rfl, rfl, rfl, by decide +kernel, rfl, by decide +kernel, by decide +kernel⟩
end DL
end

section
set_option Elab.async false
set_option linter.all false
set_option maxRecDepth 100000
set_option autoImplicit false
set_option maxHeartbeats 4000000
namespace DL
open PySem PySem.Spec PyProof.Rows L2
section
variable {P : Program} {w : World} {K : PySem.W.Frag} {mg : Str → Option Value} {base : Heap} {cls : Str → Addr} {f : Addr} {fd : FuncData}
theorem ok__law_names (F : FnP K "_law_names" "_law_names" s__law_names f fd) (B_range : mg "range" = none) (C__law_next : FnC P w K mg base cls "_law_next" 10 g__law_next) (B_len : mg "len" = none) (B_int : mg "int" = none) : FnOk P w K mg base (L2.CX P w) 11 f fd ["_law_m", "_law_many"] (spG ⟨K, cls, none⟩ g__law_names) :=
  fn_H ["_law_m", "_law_many", "_law_letters", "_law_stem", "_law_k", "_law_at", "_law_first", "_law_by", "_law_word"] ["_law_m", "_law_many"] 2 9 10 m__law_names rfl rfl F sc__law_names fun cdv A outer s H E a0 hr =>
   (ss_cons (s_asg (e_tup (d_cons (e_const pe_str fun _ => .str _) (d_cons (e_const pe_str fun _ => .str _) d_nil))) (g_tup (n := 2) rfl (gs_cons (g_name (i := 2) sc__law_names.nd rfl (by first | exact .inl rfl | exact .inr rfl)) (gs_cons (g_name (i := 3) sc__law_names.nd rfl (by first | exact .inl rfl | exact .inr rfl)) gs_nil))) (by with_unfolding_all rfl) (by with_unfolding_all rfl))
    (ss_cons (s_for ownE rfl (i_range1 (by exact rfl) B_range (a_cons (e_callC C__law_next (hr.mono (by decide)) (by exact rfl) pxE (a_cons (e_var (pv 0)) (a_cons (e_const pe_int fun _ => .int _) a_nil))) a_nil)) (g_name (i := 4) sc__law_names.nd rfl (by first | exact .inl rfl | exact .inr rfl))
    (ss_one (s_set (i := 3) sc__law_names.nd rfl (by first | exact .inl rfl | exact .inr rfl) (e_bin op_addAll os_add (e_var (pv 3)) (e_ix (ix_all hr.units) os_ix (e_var (pv 2)) (e_callC C__law_next (hr.mono (by decide)) (by exact rfl) pxE (a_cons (e_var (pv 0)) (a_cons (e_const pe_int fun _ => .int _) a_nil))) (by intro _ _; rfl))))))
    (ss_cons (s_asg (e_tup (d_cons (e_callC C__law_next (hr.mono (by decide)) (by exact rfl) pxE (a_cons (e_var (pv 0)) (a_cons (e_bin op_addAll os_add (e_callB call_len cs_len (by exact rfl) B_len (by kernel_rfl) (a_cons (e_var (pv 3)) a_nil)) (e_const pe_int fun _ => .int _)) a_nil))) (d_cons (e_callC C__law_next (hr.mono (by decide)) (by exact rfl) pxE (a_cons (e_var (pv 0)) (a_cons (e_const pe_int fun _ => .int _) a_nil))) (d_cons (e_ix (ix_all hr.units) os_ix (e_lst (d_cons (e_const pe_int fun _ => .int _) (d_cons (e_const pe_int fun _ => .int _) (d_cons (e_const pe_int fun _ => .int _) (d_cons (e_const pe_int fun _ => .int _) (d_cons (e_const pe_int fun _ => .int _) (d_cons (e_const pe_int fun _ => .int _) d_nil))))))) (e_callC C__law_next (hr.mono (by decide)) (by exact rfl) pxE (a_cons (e_var (pv 0)) (a_cons (e_const pe_int fun _ => .int _) a_nil))) (by intro _ _; rfl)) d_nil)))) (g_tup (n := 3) rfl (gs_cons (g_name (i := 5) sc__law_names.nd rfl (by first | exact .inl rfl | exact .inr rfl)) (gs_cons (g_name (i := 6) sc__law_names.nd rfl (by first | exact .inl rfl | exact .inr rfl)) (gs_cons (g_name (i := 7) sc__law_names.nd rfl (by first | exact .inl rfl | exact .inr rfl)) gs_nil)))) (by with_unfolding_all rfl) (by with_unfolding_all rfl))
    (ss_cons (s_set (i := 8) sc__law_names.nd rfl (by first | exact .inl rfl | exact .inr rfl) (e_slice rfl (e_bin op_addAll os_add (e_var (pv 3)) (e_bin op_mulAll os_mul (e_ix (ix_all hr.units) os_ix (e_var (pv 2)) (e_var (pv 6)) (by intro _ _; rfl)) (e_const pe_int fun _ => .int _))) o_none (o_some (e_const pe_int fun _ => .int _))))
    (ss_cons (s_if (w_and (t_cmp op_gt os_gt (e_var (pv 7)) (e_const pe_int fun _ => .int _) (by with_unfolding_all rfl)) (w_and1 (t_cmp (op_ltP hr.units) os_lt (e_var (pv 1)) (e_const pe_int fun _ => .int _) (by with_unfolding_all rfl)))).pt
    (ss_one (s_ret (e_lc (own := [("_law_k", 4)]) (me := (ifM (testM (bin gtF (varM 7) (constM (.int 7)))) (sliceM (varM 8) (partM (varM 4)) noPart) (sliceM (varM 8) noPart (partM (bin subF (bin addF (varM 4) (constM (.int 9))) (varM 1)))))) rfl sc__law_names.nd (i_range1 (by exact rfl) B_range (a_cons (e_var (pv 1)) a_nil)) (blkOk_of (N := ["_law_m", "_law_many", "_law_letters", "_law_stem", "_law_k", "_law_at", "_law_first", "_law_by", "_law_word"]) (sc := defScope s__law_names) (by decide +kernel)) (fun _ _ _ _ _ => (g_name (i := 4) sc__law_names.nd rfl (by first | exact .inl rfl | exact .inr rfl))) (fun _ _ _ _ _ => ts_nil) (fun _ _ _ _ _ => (e_if (t_cmp op_gt os_gt (e_var (pv 7)) (e_const pe_int fun _ => .int _) (by with_unfolding_all rfl)) (e_slice rfl (e_var (pv 8)) (o_some (e_var (pv 4))) o_none) (e_slice rfl (e_var (pv 8)) o_none (o_some (e_bin op_sub os_sub (e_bin op_addAll os_add (e_var (pv 4)) (e_const pe_int fun _ => .int _)) (e_var (pv 1))))))))))
    ss_nil)
    (ss_one (s_ret (e_lc (own := [("_law_k", 4)]) (me := (bin addF (bin addF (sliceM (varM 3) noPart (partM (varM 5))) (bin ixF (varM 2) (bin modF (callM int1F (consA (bin addF (varM 6) (bin mulF (varM 7) (varM 4))) nilA)) (constM (.int 26))))) (sliceM (varM 3) (partM (varM 5)) noPart))) rfl sc__law_names.nd (i_range1 (by exact rfl) B_range (a_cons (e_var (pv 1)) a_nil)) (blkOk_of (N := ["_law_m", "_law_many", "_law_letters", "_law_stem", "_law_k", "_law_at", "_law_first", "_law_by", "_law_word"]) (sc := defScope s__law_names) (by decide +kernel)) (fun _ _ _ _ _ => (g_name (i := 4) sc__law_names.nd rfl (by first | exact .inl rfl | exact .inr rfl))) (fun _ _ _ _ _ => ts_nil) (fun _ _ _ _ _ => (e_bin op_addAll os_add (e_bin op_addAll os_add (e_slice rfl (e_var (pv 3)) o_none (o_some (e_var (pv 5)))) (e_ix (ix_all hr.units) os_ix (e_var (pv 2)) (e_bin op_mod os_mod (e_callTy call_int1 cs_int1 (by exact rfl) B_int (by kernel_rfl) (a_cons (e_bin op_addAll os_add (e_var (pv 6)) (e_bin op_mulAll os_mul (e_var (pv 7)) (e_var (pv 4)))) a_nil)) (e_const pe_int fun _ => .int _)) (by intro _ _; rfl))) (e_slice rfl (e_var (pv 3)) (o_some (e_var (pv 5))) o_none)))))))))))
theorem ok_law (F : FnP K "law" "law" s_law f fd) (C__law_begun : FnC P w K mg base cls "_law_begun" 10 g__law_begun) (B_range : mg "range" = none) (B_len : mg "len" = none) (B_min : mg "min" = none) (C__law_names : FnC P w K mg base cls "_law_names" 11 g__law_names) (B_sorted : mg "sorted" = none) (M_Picture : MkC P w K mg base cls "Picture" 6 g_Picture___init__) (C__law_second_right : FnC P w K mg base cls "_law_second_right" 10 g__law_second_right) (C__law_first_right : FnC P w K mg base cls "_law_first_right" 10 g__law_first_right) : FnOk P w K mg base (L2.CX P w) 12 f fd ["_law_script"] (spG ⟨K, cls, none⟩ g_law) :=
  fn_H ["_law_script", "_law_m", "_law_turn", "_law_view", "_law_a", "_law_b"] ["_law_script"] 1 6 11 m_law rfl rfl F sc_law fun cdv A outer s H E a0 hr =>
   (ss_cons (s_set (i := 1) sc_law.nd rfl (by first | exact .inl rfl | exact .inr rfl) (e_callW C__law_begun (hr.mono (by decide)) (by exact rfl) pxE (pv 0)))
    (ss_cons (s_for ownE rfl (i_range1 (by exact rfl) B_range (a_cons (e_bin op_addAll os_add (e_const pe_int fun _ => .int _) (e_callB (call_min2 rfl) cs_min2 (by exact rfl) B_min (by kernel_rfl) (a_cons (e_callB call_len cs_len (by exact rfl) B_len (by kernel_rfl) (a_cons (e_var (pv 0)) a_nil)) (a_cons (e_const pe_int fun _ => .int _) a_nil)))) a_nil)) (g_name (i := 2) sc_law.nd rfl (by first | exact .inl rfl | exact .inr rfl))
    (ss_cons (s_asg (e_callB (call_sortedD hr.units) cs_sorted (by exact rfl) B_sorted (by kernel_rfl) (a_cons (e_callC C__law_names (hr.mono (by decide)) (by exact rfl) pxE (a_cons (e_var (pv 1)) (a_cons (e_const pe_int fun _ => .int _) a_nil))) a_nil)) (g_tupL (n := 2) rfl rfl (gs_cons (g_name (i := 4) sc_law.nd rfl (by first | exact .inl rfl | exact .inr rfl)) (gs_cons (g_name (i := 5) sc_law.nd rfl (by first | exact .inl rfl | exact .inr rfl)) gs_nil))))
    (ss_cons (s_set (i := 3) sc_law.nd rfl (by first | exact .inl rfl | exact .inr rfl) (e_makeC M_Picture (hr.mono (by decide)) (by exact rfl) pxE (a_cons (e_lst (d_cons (e_tup (d_cons (e_tup (d_cons (e_var (pv 4)) d_nil)) (d_cons (e_const pe_int fun _ => .int _) d_nil))) (d_cons (e_tup (d_cons (e_tup (d_cons (e_var (pv 5)) d_nil)) (d_cons (e_const pe_int fun _ => .int _) d_nil))) (d_cons (e_tup (d_cons (e_tup (d_cons (e_var (pv 4)) (d_cons (e_var (pv 5)) d_nil))) (d_cons (e_const pe_int fun _ => .int _) d_nil))) d_nil)))) a_nil)))
    (ss_one (s_if (w_or (t_not (t_val (e_callC C__law_first_right (hr.mono (by decide)) (by exact rfl) pxE (a_cons (e_var (pv 4)) (a_cons (e_var (pv 5)) (a_cons (e_var (pv 3)) a_nil)))))) (w_or1 (t_not (t_val (e_callC C__law_second_right (hr.mono (by decide)) (by exact rfl) pxE (a_cons (e_var (pv 3)) a_nil)))))).pt
    (ss_one (s_ret (e_const pe_bl fun _ => .bl _)))
    ss_nil)))))
    (ss_one (s_ret (e_const pe_bl fun _ => .bl _)))))
theorem ok_is_chain (F : FnP K "is_chain" "is_chain" s_is_chain f fd) (T_Picture_has : MetC P w K mg base cls "Picture" "has" 3 g_Picture_has) (B_all : mg "all" = none) (B_isinstance : mg "isinstance" = none) (B_tuple : mg "tuple" = none) (B_len : mg "len" = none) (C_are_rising : FnC P w K mg base cls "are_rising" 1 g_are_rising) : FnOk P w K mg base (L2.CX P w) 4 f fd ["picture", "thing"] (spG ⟨K, cls, none⟩ g_is_chain) :=
  fn_H ["picture", "thing", "one"] ["picture", "thing"] 2 3 3 m_is_chain rfl rfl F sc_is_chain fun cdv A outer s H E a0 hr =>
   (ss_cons (s_if (w_or (t_not (t_val (e_isi .tup rfl rfl (by exact rfl) B_isinstance (e_var (pv 1)) (pe_tyName (by exact rfl) B_tuple (by kernel_rfl))))) (w_or1 (t_not (t_val (e_callB (cr_all rfl) cs_all (by exact rfl) B_all (by kernel_rfl) (a_cons (e_lc (own := [("one", 2)]) (me := (methM "Picture" "has" g_Picture_has (varM 0) (consA (varM 2) nilA))) rfl sc_is_chain.nd (i_seqZ rfl (e_var (pv 1))) (blkOk_of (N := ["picture", "thing", "one"]) (sc := defScope s_is_chain) (by decide +kernel)) (fun _ _ _ _ _ => (g_name (i := 2) sc_is_chain.nd rfl (by first | exact .inl rfl | exact .inr rfl))) (fun _ _ _ _ _ => ts_nil) (fun _ _ _ _ _ => (e_methC T_Picture_has (e_var (pv 0)) (hr.mono (by decide)) passL (a_cons (e_var (pv 2)) a_nil)))) a_nil)))))).pt
    (ss_one (s_ret (e_const pe_bl fun _ => .bl _)))
    ss_nil)
    (ss_one (s_ret (e_and (e_callC C_are_rising (hr.mono (by decide)) (by exact rfl) pxE (a_cons (e_var (pv 1)) a_nil)) (e_one (e_callB (cr_all rfl) cs_all (by exact rfl) B_all (by kernel_rfl) (a_cons (e_lc (own := [("one", 2)]) (me := (bin (eqF false) (callM lenF (consA (varM 2) nilA)) (callM lenF (consA (bin ixF (varM 1) (constM (.int 0))) nilA)))) rfl sc_is_chain.nd (i_seqZ rfl (e_var (pv 1))) (blkOk_of (N := ["picture", "thing", "one"]) (sc := defScope s_is_chain) (by decide +kernel)) (fun _ _ _ _ _ => (g_name (i := 2) sc_is_chain.nd rfl (by first | exact .inl rfl | exact .inr rfl))) (fun _ _ _ _ _ => ts_nil) (fun _ _ _ _ _ => (e_cmp (op_eqP hr.units) (os_eq false) (e_callB call_len cs_len (by exact rfl) B_len (by kernel_rfl) (a_cons (e_var (pv 2)) a_nil)) (e_callB call_len cs_len (by exact rfl) B_len (by kernel_rfl) (a_cons (e_ix (ix_all hr.units) os_ix (e_var (pv 1)) (e_const pe_int fun _ => .int _) (by intro _ _; rfl)) a_nil)) (by with_unfolding_all rfl)))) a_nil)))))))
theorem ok_numbers_there (F : FnP K "numbers_there" "numbers_there" s_numbers_there f fd) (B_enumerate : mg "enumerate" = none) (A_Picture_row : AttrOk ⟨K, cls, none⟩ "Picture" "row") (A_Picture_times : AttrOk ⟨K, cls, none⟩ "Picture" "times") (B_len : mg "len" = none) : FnOk P w K mg base (L2.CX P w) 1 f fd ["picture", "kind", "time"] (spG ⟨K, cls, none⟩ g_numbers_there) :=
  fn_H ["picture", "kind", "time", "found", "number", "thing"] ["picture", "kind", "time"] 3 6 0 m_numbers_there rfl rfl F sc_numbers_there fun cdv A outer s H E a0 hr =>
   (ss_cons (s_set (i := 3) sc_numbers_there.nd rfl (by first | exact .inl rfl | exact .inr rfl) (e_lst d_nil))
    (ss_cons (s_for ownE rfl (i_enum rfl (by exact rfl) B_enumerate (a_fz (d_cons (e_fld (cs := ["Picture"]) rfl (attr1 A_Picture_row) (e_var (pv 0)) rfl) d_nil))) (g_tup (n := 2) rfl (gs_cons (g_name (i := 4) sc_numbers_there.nd rfl (by first | exact .inl rfl | exact .inr rfl)) (gs_cons (g_name (i := 5) sc_numbers_there.nd rfl (by first | exact .inl rfl | exact .inr rfl)) gs_nil)))
    (ss_one (s_if (w_and (t_cmp (op_eqP hr.units) (os_eq false) (e_callB call_len cs_len (by exact rfl) B_len (by kernel_rfl) (a_cons (e_var (pv 5)) a_nil)) (e_bin op_addAll os_add (e_var (pv 1)) (e_const pe_int fun _ => .int _)) (by with_unfolding_all rfl)) (w_and1 (t_cmp op_le os_le (e_ix (ix_all hr.units) os_ix (e_fld (cs := ["Picture"]) rfl (attr1 A_Picture_times) (e_var (pv 0)) rfl) (e_var (pv 4)) (by intro _ _; rfl)) (e_var (pv 2)) (by with_unfolding_all rfl)))).pt
    (ss_one (s_expr (e_append (pv 3) (e_var (pv 4)))))
    ss_nil)))
    (ss_one (s_ret (e_var (pv 3))))))
theorem ok_need_items (F : FnP K "need_items" "need_items" s_need_items f fd) (B_enumerate : mg "enumerate" = none) (C_is_timed : FnC P w K mg base cls "is_timed" 4 g_is_timed) : FnOk P w K mg base (L2.CX P w) 5 f fd ["things"] (spG ⟨K, cls, none⟩ g_need_items) :=
  fn_H ["things", "met", "number", "item"] ["things"] 1 4 4 m_need_items rfl rfl F sc_need_items fun cdv A outer s H E a0 hr =>
   (ss_cons (s_set (i := 1) sc_need_items.nd rfl (by first | exact .inl rfl | exact .inr rfl) (e_lst d_nil))
    (ss_one (s_for ownE rfl (i_enum rfl (by exact rfl) B_enumerate (a_fz (d_cons (e_var (pv 0)) d_nil))) (g_tup (n := 2) rfl (gs_cons (g_name (i := 2) sc_need_items.nd rfl (by first | exact .inl rfl | exact .inr rfl)) (gs_cons (g_name (i := 3) sc_need_items.nd rfl (by first | exact .inl rfl | exact .inr rfl)) gs_nil)))
    (ss_cons (s_if (w_or (t_not (t_val (e_callC C_is_timed (hr.mono (by decide)) (by exact rfl) pxE (a_cons (e_var (pv 3)) a_nil)))) (w_or1 (t_cmp (op_inAll hr.units) (os_in false) (e_ix (ix_all hr.units) os_ix (e_var (pv 3)) (e_const pe_int fun _ => .int _) (by intro _ _; rfl)) (e_var (pv 1)) (by with_unfolding_all rfl)))).pt
    (ss_one s_never)
    ss_nil)
    (ss_one (s_expr (e_append (pv 1) (e_ix (ix_all hr.units) os_ix (e_var (pv 3)) (e_const pe_int fun _ => .int _) (by intro _ _; rfl)))))))))
theorem ok_are_rising (F : FnP K "are_rising" "are_rising" s_are_rising f fd) (B_zip : mg "zip" = none) (B_all : mg "all" = none) : FnOk P w K mg base (L2.CX P w) 1 f fd ["items"] (spG ⟨K, cls, none⟩ g_are_rising) :=
  fn_H ["items", "one", "other"] ["items"] 1 3 0 m_are_rising rfl rfl F sc_are_rising fun cdv A outer s H E a0 hr =>
   (ss_one (s_ret (e_callB (cr_all rfl) cs_all (by exact rfl) B_all (by kernel_rfl) (a_cons (e_lc (own := [("one", 1), ("other", 2)]) (me := (bin ltF (varM 1) (varM 2))) rfl sc_are_rising.nd (i_zip rfl (by exact rfl) B_zip (a_fz (d_cons (e_var (pv 0)) (d_cons (e_slice rfl (e_var (pv 0)) (o_some (e_const pe_int fun _ => .int _)) o_none) d_nil)))) (blkOk_of (N := ["items", "one", "other"]) (sc := defScope s_are_rising) (by decide +kernel)) (fun _ _ _ _ _ => (g_tup (n := 2) rfl (gs_cons (g_name (i := 1) sc_are_rising.nd rfl (by first | exact .inl rfl | exact .inr rfl)) (gs_cons (g_name (i := 2) sc_are_rising.nd rfl (by first | exact .inl rfl | exact .inr rfl)) gs_nil)))) (fun _ _ _ _ _ => ts_nil) (fun _ _ _ _ _ => (e_cmp (op_ltP hr.units) os_lt (e_var (pv 1)) (e_var (pv 2)) (by with_unfolding_all rfl)))) a_nil))))
theorem ok__law_begun (F : FnP K "_law_begun" "_law_begun" s__law_begun f fd) (B_list : mg "list" = none) : FnOk P w K mg base (L2.CX P w) 10 f fd ["_law_script"] (spG ⟨K, cls, none⟩ g__law_begun) :=
  fn_H ["_law_script", "_law_cell"] ["_law_script"] 1 2 9 m__law_begun rfl rfl F sc__law_begun fun cdv A outer s H E a0 hr =>
   (ss_one (s_ret (e_rnew (e_callTy call_list_of cs_list (by exact rfl) B_list (by kernel_rfl) (a_cons (e_var (pv 0)) a_nil)) (e_lc (own := [("_law_cell", 1)]) (me := (varM 1)) rfl sc__law_begun.nd (i_seq rfl (e_var (pv 0))) (blkOk_of (N := ["_law_script", "_law_cell"]) (sc := defScope s__law_begun) (by decide +kernel)) (fun _ _ _ _ _ => (g_name (i := 1) sc__law_begun.nd rfl (by first | exact .inl rfl | exact .inr rfl))) (fun _ _ _ _ _ => (ts_one (t_cmp op_ge os_ge (e_var (pv 1)) (e_bin op_pow os_pow (e_const pe_int fun _ => .int _) (e_const pe_int fun _ => .int _)) (by with_unfolding_all rfl)))) (fun _ _ _ _ _ => (e_var (pv 1)))))))
theorem ok_Picture_has (F : FnP K "has" "Picture.has" s_Picture_has f fd) (A_Picture_row : AttrOk ⟨K, cls, none⟩ "Picture" "row") (C_is_thing : FnC P w K mg base cls "is_thing" 2 g_is_thing) : FnOk P w K mg base (L2.CX P w) 3 f fd ["self", "thing"] (spG ⟨K, cls, none⟩ g_Picture_has) :=
  fn_H ["self", "thing"] ["self", "thing"] 2 2 2 m_Picture_has rfl rfl F sc_Picture_has fun cdv A outer s H E a0 hr =>
   (ss_one (s_ret (e_and (e_callC C_is_thing (hr.mono (by decide)) (by exact rfl) pxE (a_cons (e_var (pv 1)) a_nil)) (e_one (e_cmp (op_inAll hr.units) (os_in false) (e_var (pv 1)) (e_fld (cs := ["Picture"]) rfl (attr1 A_Picture_row) (e_var (pv 0)) rfl) (by with_unfolding_all rfl))))))
theorem ok_Picture_need_thing (F : FnP K "need_thing" "Picture.need_thing" s_Picture_need_thing f fd) (T_Picture_has : MetC P w K mg base cls "Picture" "has" 3 g_Picture_has) : FnOk P w K mg base (L2.CX P w) 4 f fd ["self", "thing"] (spG ⟨K, cls, none⟩ g_Picture_need_thing) :=
  fn_H ["self", "thing"] ["self", "thing"] 2 2 3 m_Picture_need_thing rfl rfl F sc_Picture_need_thing fun cdv A outer s H E a0 hr =>
   (ss_one (s_if (t_not (t_val (e_methC T_Picture_has (e_var (pv 0)) (hr.mono (by decide)) pxE (a_cons (e_var (pv 1)) a_nil))))
    (ss_one s_never)
    ss_nil))
theorem ok_need_time (F : FnP K "need_time" "need_time" s_need_time f fd) (C_is_time : FnC P w K mg base cls "is_time" 3 g_is_time) : FnOk P w K mg base (L2.CX P w) 4 f fd ["time"] (spG ⟨K, cls, none⟩ g_need_time) :=
  fn_H ["time"] ["time"] 1 1 3 m_need_time rfl rfl F sc_need_time fun cdv A outer s H E a0 hr =>
   (ss_one (s_if (t_not (t_val (e_callC C_is_time (hr.mono (by decide)) (by exact rfl) pxE (a_cons (e_var (pv 0)) a_nil))))
    (ss_one s_never)
    ss_nil))
end
end DL
end

section
set_option Elab.async false
set_option linter.all false
set_option maxRecDepth 100000
set_option autoImplicit false
set_option maxHeartbeats 4000000
namespace DL
open PySem PySem.Spec PyProof.Rows L2
section
variable {P : Program} {w : World} {K : PySem.W.Frag} {mg : Str → Option Value} {base : Heap} {cls : Str → Addr} {f : Addr} {fd : FuncData}
theorem ok__law_first_right (F : FnP K "_law_first_right" "_law_first_right" s__law_first_right f fd) (E_Picture : EqC P w K mg base cls "Picture" 8 g_Picture___eq__) (W_Picture_timed_time_thing : MetK P w K mg base cls "Picture" "timed" 8 g_Picture_timed ["time", "thing"] [1, 0]) (N_Picture_things : MkK P w K mg base cls "Picture" 6 g_Picture___init__ ["things"] [0]) (W_Picture_with_thing_time_thing : MetK P w K mg base cls "Picture" "with_thing" 8 g_Picture_with_thing ["time", "thing"] [1, 0]) (W_Picture_without_thing : MetK P w K mg base cls "Picture" "without" 8 g_Picture_without ["thing"] [0]) (Q_is_chain_thing_picture : FnK P w K mg base cls "is_chain" 4 g_is_chain ["thing", "picture"] [1, 0]) (Q_is_ring_chain_picture : FnK P w K mg base cls "is_ring" 7 g_is_ring ["chain", "picture"] [1, 0]) (Q_edge_chain_picture : FnK P w K mg base cls "edge" 6 g_edge ["chain", "picture"] [1, 0]) (Q_holes_time_kind_picture : FnK P w K mg base cls "holes" 5 g_holes ["time", "kind", "picture"] [2, 1, 0]) (Q_is_filled_time_chain_picture : FnK P w K mg base cls "is_filled" 8 g_is_filled ["time", "chain", "picture"] [2, 1, 0]) (Q_filling_time_chain_picture : FnK P w K mg base cls "filling" 7 g_filling ["time", "chain", "picture"] [2, 1, 0]) : FnOk P w K mg base (L2.CX P w) 10 f fd ["_law_a", "_law_b", "_law_view"] (spG ⟨K, cls, none⟩ g__law_first_right) :=
  fn_H ["_law_a", "_law_b", "_law_view"] ["_law_a", "_law_b", "_law_view"] 3 3 9 m__law_first_right rfl rfl F sc__law_first_right fun cdv A outer s H E a0 hr =>
   (ss_cons (s_if (w_or (t_own E_Picture (hr.mono (by decide)) pxE true rfl (e_makeKC N_Picture_things (hr.mono (by decide)) (by exact rfl) pxE (k_cons (e_lst (d_cons (e_tup (d_cons (e_tup (d_cons (e_var (pv 0)) d_nil)) (d_cons (e_const pe_int fun _ => .int _) d_nil))) (d_cons (e_tup (d_cons (e_tup (d_cons (e_var (pv 1)) d_nil)) (d_cons (e_const pe_int fun _ => .int _) d_nil))) (d_cons (e_tup (d_cons (e_tup (d_cons (e_var (pv 0)) (d_cons (e_var (pv 1)) d_nil))) (d_cons (e_const pe_int fun _ => .int _) d_nil))) d_nil)))) k_nil)) (e_var (pv 2)) (by with_unfolding_all rfl)) (w_or1 (t_own E_Picture (hr.mono (by decide)) pxE true rfl (e_methKC W_Picture_timed_time_thing (e_var (pv 2)) (hr.mono (by decide)) pxE (k_cons (e_const pe_int fun _ => .int _) (k_cons (e_tup (d_cons (e_var (pv 0)) (d_cons (e_var (pv 1)) d_nil))) k_nil))) (e_var (pv 2)) (by with_unfolding_all rfl)))).pt
    (ss_one (s_ret (e_const pe_bl fun _ => .bl _)))
    ss_nil)
    (ss_cons (s_if (t_own E_Picture (hr.mono (by decide)) pxE true rfl (e_methKC W_Picture_with_thing_time_thing (e_methKC W_Picture_without_thing (e_var (pv 2)) (hr.mono (by decide)) pxE (k_cons (e_tup (d_cons (e_var (pv 0)) (d_cons (e_var (pv 1)) d_nil))) k_nil)) (hr.mono (by decide)) pxE (k_cons (e_const pe_int fun _ => .int _) (k_cons (e_tup (d_cons (e_var (pv 0)) (d_cons (e_var (pv 1)) d_nil))) k_nil))) (e_var (pv 2)) (by with_unfolding_all rfl))
    (ss_one (s_ret (e_const pe_bl fun _ => .bl _)))
    ss_nil)
    (ss_cons (s_if (t_cmp op_isNotAll (os_is true) (e_callKC Q_is_chain_thing_picture (hr.mono (by decide)) (by exact rfl) pxE (k_cons (e_tup (d_cons (e_tup (d_cons (e_var (pv 0)) d_nil)) d_nil)) (k_cons (e_var (pv 2)) k_nil))) (e_const pe_bl fun _ => .bl _) (by with_unfolding_all rfl))
    (ss_one (s_ret (e_const pe_bl fun _ => .bl _)))
    ss_nil)
    (ss_cons (s_if (w_or (t_cmp (op_neP hr.units) (os_eq true) (e_callKC Q_edge_chain_picture (hr.mono (by decide)) (by exact rfl) pxE (k_cons (e_tup (d_cons (e_tup (d_cons (e_var (pv 0)) (d_cons (e_var (pv 1)) d_nil))) d_nil)) (k_cons (e_var (pv 2)) k_nil))) (e_tup (d_cons (e_tup (d_cons (e_var (pv 0)) d_nil)) (d_cons (e_tup (d_cons (e_var (pv 1)) d_nil)) d_nil))) (by with_unfolding_all rfl)) (w_or1 (t_cmp op_isNotAll (os_is true) (e_callKC Q_is_ring_chain_picture (hr.mono (by decide)) (by exact rfl) pxE (k_cons (e_tup (d_cons (e_tup (d_cons (e_var (pv 1)) d_nil)) d_nil)) (k_cons (e_var (pv 2)) k_nil))) (e_const pe_bl fun _ => .bl _) (by with_unfolding_all rfl)))).pt
    (ss_one (s_ret (e_const pe_bl fun _ => .bl _)))
    ss_nil)
    (ss_cons (s_if (w_or (t_cmp op_isNotAll (os_is true) (e_callKC Q_is_filled_time_chain_picture (hr.mono (by decide)) (by exact rfl) pxE (k_cons (e_const pe_int fun _ => .int _) (k_cons (e_tup (d_cons (e_tup (d_cons (e_var (pv 0)) d_nil)) (d_cons (e_tup (d_cons (e_var (pv 1)) d_nil)) d_nil))) (k_cons (e_var (pv 2)) k_nil)))) (e_const pe_bl fun _ => .bl _) (by with_unfolding_all rfl)) (w_or1 (t_cmp (op_neP hr.units) (os_eq true) (e_callKC Q_holes_time_kind_picture (hr.mono (by decide)) (by exact rfl) pxE (k_cons (e_const pe_int fun _ => .int _) (k_cons (e_const pe_int fun _ => .int _) (k_cons (e_var (pv 2)) k_nil)))) (e_const pe_int fun _ => .int _) (by with_unfolding_all rfl)))).pt
    (ss_one (s_ret (e_const pe_bl fun _ => .bl _)))
    ss_nil)
    (ss_one (s_ret (e_cmp (op_eqP hr.units) (os_eq false) (e_callKC Q_filling_time_chain_picture (hr.mono (by decide)) (by exact rfl) pxE (k_cons (e_const pe_int fun _ => .int _) (k_cons (e_tup (d_cons (e_tup (d_cons (e_var (pv 0)) d_nil)) (d_cons (e_tup (d_cons (e_var (pv 1)) d_nil)) d_nil))) (k_cons (e_var (pv 2)) k_nil)))) (e_tup (d_cons (e_tup (d_cons (e_var (pv 0)) (d_cons (e_var (pv 1)) d_nil))) d_nil)) (by with_unfolding_all rfl)))))))))
theorem ok_Picture_without (F : FnP K "without" "Picture.without" s_Picture_without f fd) (T_Picture_need_thing : MetC P w K mg base cls "Picture" "need_thing" 4 g_Picture_need_thing) (A_Picture_row : AttrOk ⟨K, cls, none⟩ "Picture" "row") (C_sides_of : FnC P w K mg base cls "sides_of" 1 g_sides_of) (B_any : mg "any" = none) (B_len : mg "len" = none) (M_Picture : MkC P w K mg base cls "Picture" 6 g_Picture___init__) (T_Picture_pairs : MetC P w K mg base cls "Picture" "pairs" 1 g_Picture_pairs) : FnOk P w K mg base (L2.CX P w) 8 f fd ["self", "thing"] (spG ⟨K, cls, none⟩ g_Picture_without) :=
  fn_H ["self", "thing", "other", "pair"] ["self", "thing"] 2 4 7 m_Picture_without rfl rfl F sc_Picture_without fun cdv A outer s H E a0 hr =>
   (ss_cons (s_expr (e_methC T_Picture_need_thing (e_var (pv 0)) (hr.mono (by decide)) pxE (a_cons (e_var (pv 1)) a_nil)))
    (ss_cons (s_if (w_or (t_cmp (op_eqP hr.units) (os_eq false) (e_callB call_len cs_len (by exact rfl) B_len (by kernel_rfl) (a_cons (e_fld (cs := ["Picture"]) rfl (attr1 A_Picture_row) (e_var (pv 0)) rfl) a_nil)) (e_const pe_int fun _ => .int _) (by with_unfolding_all rfl)) (w_or1 (t_val (e_callB (cr_any rfl) cs_any (by exact rfl) B_any (by kernel_rfl) (a_cons (e_lc (own := [("other", 2)]) (me := (bin (inF false) (varM 1) (callM (callG g_sides_of) (consA (varM 2) nilA)))) rfl sc_Picture_without.nd (i_seqZ rfl (e_fld (cs := ["Picture"]) rfl (attr1 A_Picture_row) (e_var (pv 0)) rfl)) (blkOk_of (N := ["self", "thing", "other", "pair"]) (sc := defScope s_Picture_without) (by decide +kernel)) (fun _ _ _ _ _ => (g_name (i := 2) sc_Picture_without.nd rfl (by first | exact .inl rfl | exact .inr rfl))) (fun _ _ _ _ _ => ts_nil) (fun _ _ _ _ _ => (e_cmp (op_inAll hr.units) (os_in false) (e_var (pv 1)) (e_callC C_sides_of (hr.mono (by decide)) (by exact rfl) passL (a_cons (e_var (pv 2)) a_nil)) (by with_unfolding_all rfl)))) a_nil))))).pt
    (ss_one s_never)
    ss_nil)
    (ss_one (s_ret (e_makeC M_Picture (hr.mono (by decide)) (by exact rfl) pxE (a_cons (e_lc (own := [("pair", 3)]) (me := (varM 3)) rfl sc_Picture_without.nd (i_seqZ rfl (e_meth0C T_Picture_pairs (e_var (pv 0)) (hr.mono (by decide)) pxE)) (blkOk_of (N := ["self", "thing", "other", "pair"]) (sc := defScope s_Picture_without) (by decide +kernel)) (fun _ _ _ _ _ => (g_name (i := 3) sc_Picture_without.nd rfl (by first | exact .inl rfl | exact .inr rfl))) (fun _ _ _ _ _ => (ts_one (t_cmp (op_neP hr.units) (os_eq true) (e_ix (ix_all hr.units) os_ix (e_var (pv 3)) (e_const pe_int fun _ => .int _) (by intro _ _; rfl)) (e_var (pv 1)) (by with_unfolding_all rfl)))) (fun _ _ _ _ _ => (e_var (pv 3)))) a_nil))))))
theorem ok_Pairing___init__ (F : FnP K "__init__" "Pairing.__init__" s_Pairing___init__ f fd) (B_enumerate : mg "enumerate" = none) (C_edges : FnC P w K mg base cls "edges" 3 g_edges) (T_Basis_take : MetC P w K mg base cls "Basis" "take" 3 g_Basis_take) (A_Pairing_chains : AttrOk ⟨K, cls, none⟩ "Pairing" "chains") (C_last_of : FnC P w K mg base cls "last_of" 1 g_last_of) (A_Pairing_ends : AttrOk ⟨K, cls, none⟩ "Pairing" "ends") (M_Basis : MkC P w K mg base cls "Basis" 1 g_Basis___init__) : FnOk P w K mg base (L2.CX P w) 4 f fd ["self", "picture"] (spG ⟨K, cls, none⟩ g_Pairing___init__) :=
  fn_H ["self", "picture", "basis", "number", "alone", "left", "chain"] ["self", "picture"] 2 7 3 m_Pairing___init__ rfl rfl F sc_Pairing___init__ fun cdv A outer s H E a0 hr =>
   (ss_cons (s_pinit (M := ⟨K, cls, a0⟩) rfl ⟨A_Pairing_chains.cl, A_Pairing_chains.no⟩ ⟨A_Pairing_ends.cl, A_Pairing_ends.no⟩ rfl (pv 0) (pv 0))
    (ss_cons (s_set (i := 2) sc_Pairing___init__.nd rfl (by first | exact .inl rfl | exact .inr rfl) (e_make0C M_Basis (hr.mono (by decide)) (by exact rfl) pxE))
    (ss_cons (s_for ownE rfl (i_enum rfl (by exact rfl) B_enumerate (a_fz (d_cons (e_callC C_edges (hr.mono (by decide)) (by exact rfl) pxE (a_cons (e_var (pv 1)) a_nil)) d_nil))) (g_tup (n := 2) rfl (gs_cons (g_name (i := 3) sc_Pairing___init__.nd rfl (by first | exact .inl rfl | exact .inr rfl)) (gs_cons (g_name (i := 4) sc_Pairing___init__.nd rfl (by first | exact .inl rfl | exact .inr rfl)) gs_nil)))
    (ss_cons (s_asg (e_methC T_Basis_take (e_var (pv 2)) (hr.mono (by decide)) pxE (a_cons (e_var (pv 4)) (a_cons (e_bin op_shl os_shl (e_const pe_int fun _ => .int _) (e_var (pv 3))) a_nil))) (g_tup (n := 2) rfl (gs_cons (g_name (i := 5) sc_Pairing___init__.nd rfl (by first | exact .inl rfl | exact .inr rfl)) (gs_cons (g_name (i := 6) sc_Pairing___init__.nd rfl (by first | exact .inl rfl | exact .inr rfl)) gs_nil))))
    (ss_cons (s_papp (M := ⟨K, cls, a0⟩) ⟨A_Pairing_chains.cl, A_Pairing_chains.no⟩ rfl (pv 0) (pv 6))
    (ss_one (s_if (t_cmp (op_neP hr.units) (os_eq true) (e_var (pv 5)) (e_const pe_int fun _ => .int _) (by with_unfolding_all rfl))
    (ss_one (s_pput C_last_of (hr.mono (by decide)) (by exact rfl) pxE ⟨A_Pairing_ends.cl, A_Pairing_ends.no⟩ (pv 0) (pv 5) (pv 3)))
    ss_nil)))))
    ss_pend)))
theorem ok_Basis_reduced (F : FnP K "reduced" "Basis.reduced" s_Basis_reduced f fd) (A_Basis_kept : AttrOk ⟨K, cls, none⟩ "Basis" "kept") (C_last_of : FnC P w K mg base cls "last_of" 1 g_last_of) : FnOk P w K mg base (L2.CX P w) 2 f fd ["self", "figures", "chain"] (spG ⟨K, cls, none⟩ g_Basis_reduced) :=
  fn_H ["self", "figures", "chain", "far", "other"] ["self", "figures", "chain"] 3 5 1 m_Basis_reduced rfl rfl F sc_Basis_reduced fun cdv A outer s H E a0 hr =>
   (ss_cons (s_while (fun _ => 1000) ownE (w_and (t_cmp (op_neP hr.units) (os_eq true) (e_var (pv 1)) (e_const pe_int fun _ => .int _) (by with_unfolding_all rfl)) (w_and1 (t_kin (M := ⟨K, cls, a0⟩) hr.units ⟨A_Basis_kept.cl, A_Basis_kept.no⟩ rfl (pv 0) (e_callC C_last_of (hr.mono (by decide)) (by exact rfl) pxE (a_cons (e_var (pv 1)) a_nil)) (by with_unfolding_all rfl)))).pt
    (ss_cons (s_asg (e_kget C_last_of (hr.mono (by decide)) (by exact rfl) pxE ⟨A_Basis_kept.cl, A_Basis_kept.no⟩ (pv 0) (pv 1)) (g_tup (n := 2) rfl (gs_cons (g_name (i := 3) sc_Basis_reduced.nd rfl (by first | exact .inl rfl | exact .inr rfl)) (gs_cons (g_name (i := 4) sc_Basis_reduced.nd rfl (by first | exact .inl rfl | exact .inr rfl)) gs_nil))))
    (ss_one (s_par2 (i := 1) (j := 2) rfl sc_Basis_reduced.nd rfl rfl (by decide) rfl rfl (e_bin op_xor os_xor (e_var (pv 1)) (e_var (pv 3))) (e_bin op_xor os_xor (e_var (pv 2)) (e_var (pv 4))) (by with_unfolding_all rfl) (by with_unfolding_all rfl)))))
    (ss_one (s_ret (e_tup (d_cons (e_var (pv 1)) (d_cons (e_var (pv 2)) d_nil))))))
theorem ok_Basis_take (F : FnP K "take" "Basis.take" s_Basis_take f fd) (T_Basis_reduced : MetC P w K mg base cls "Basis" "reduced" 2 g_Basis_reduced) (C_last_of : FnC P w K mg base cls "last_of" 1 g_last_of) (A_Basis_kept : AttrOk ⟨K, cls, none⟩ "Basis" "kept") : FnOk P w K mg base (L2.CX P w) 3 f fd ["self", "figures", "chain"] (spG ⟨K, cls, none⟩ g_Basis_take) :=
  fn_H ["self", "figures", "chain"] ["self", "figures", "chain"] 3 3 2 m_Basis_take rfl rfl F sc_Basis_take fun cdv A outer s H E a0 hr =>
   (ss_cons (s_asg (e_methC T_Basis_reduced (e_var (pv 0)) (hr.mono (by decide)) pxE (a_cons (e_var (pv 1)) (a_cons (e_var (pv 2)) a_nil))) (g_tup (n := 2) rfl (gs_cons (g_name (i := 1) sc_Basis_take.nd rfl (by first | exact .inl rfl | exact .inr rfl)) (gs_cons (g_name (i := 2) sc_Basis_take.nd rfl (by first | exact .inl rfl | exact .inr rfl)) gs_nil))))
    (ss_cons (s_if (t_cmp (op_neP hr.units) (os_eq true) (e_var (pv 1)) (e_const pe_int fun _ => .int _) (by with_unfolding_all rfl))
    (ss_one (s_kput C_last_of (hr.mono (by decide)) (by exact rfl) pxE ⟨A_Basis_kept.cl, A_Basis_kept.no⟩ (pv 0) (pv 1) (e_tup (d_cons (e_var (pv 1)) (d_cons (e_var (pv 2)) d_nil)))))
    ss_nil)
    (ss_one (s_ret (e_tup (d_cons (e_var (pv 1)) (d_cons (e_var (pv 2)) d_nil)))))))
theorem ok_edges (F : FnP K "edges" "edges" s_edges f fd) (A_Picture_row : AttrOk ⟨K, cls, none⟩ "Picture" "row") (C_figures_of : FnC P w K mg base cls "figures_of" 2 g_figures_of) (C_sides_of : FnC P w K mg base cls "sides_of" 1 g_sides_of) : FnOk P w K mg base (L2.CX P w) 3 f fd ["picture"] (spG ⟨K, cls, none⟩ g_edges) :=
  fn_H ["picture", "thing"] ["picture"] 1 2 2 m_edges rfl rfl F sc_edges fun cdv A outer s H E a0 hr =>
   (ss_one (s_ret (e_lc (own := [("thing", 1)]) (me := (callM (callG g_figures_of) (consA (varM 0) (consA (callM (callG g_sides_of) (consA (varM 1) nilA)) nilA)))) rfl sc_edges.nd (i_seqZ rfl (e_fld (cs := ["Picture"]) rfl (attr1 A_Picture_row) (e_var (pv 0)) rfl)) (blkOk_of (N := ["picture", "thing"]) (sc := defScope s_edges) (by decide +kernel)) (fun _ _ _ _ _ => (g_name (i := 1) sc_edges.nd rfl (by first | exact .inl rfl | exact .inr rfl))) (fun _ _ _ _ _ => ts_nil) (fun _ _ _ _ _ => (e_callC C_figures_of (hr.mono (by decide)) (by exact rfl) passL (a_cons (e_var (pv 0)) (a_cons (e_callC C_sides_of (hr.mono (by decide)) (by exact rfl) passL (a_cons (e_var (pv 1)) a_nil)) a_nil)))))))
theorem ok_begins (F : FnP K "begins" "begins" s_begins f fd) (C_need_place : FnC P w K mg base cls "need_place" 3 g_need_place) (T_Pairing_enders : MetC P w K mg base cls "Pairing" "enders" 1 g_Pairing_enders) (M_Pairing : MkC P w K mg base cls "Pairing" 4 g_Pairing___init__) : FnOk P w K mg base (L2.CX P w) 6 f fd ["picture", "number"] (spG ⟨K, cls, none⟩ g_begins) :=
  fn_H ["picture", "number"] ["picture", "number"] 2 2 5 m_begins rfl rfl F sc_begins fun cdv A outer s H E a0 hr =>
   (ss_cons (s_expr (e_callC C_need_place (hr.mono (by decide)) (by exact rfl) pxE (a_cons (e_var (pv 0)) (a_cons (e_var (pv 1)) a_nil))))
    (ss_one (s_ret (e_cmp (op_notInAll hr.units) (os_in true) (e_var (pv 1)) (e_meth0C T_Pairing_enders (e_makeC M_Pairing (hr.mono (by decide)) (by exact rfl) pxE (a_cons (e_var (pv 0)) a_nil)) (hr.mono (by decide)) pxE) (by with_unfolding_all rfl)))))
theorem ok_need_kind (F : FnP K "need_kind" "need_kind" s_need_kind f fd) (C_is_among : FnC P w K mg base cls "is_among" 2 g_is_among) (K_MOST_KIND : GC mg "MOST_KIND" (.int 2)) : FnOk P w K mg base (L2.CX P w) 3 f fd ["kind"] (spG ⟨K, cls, none⟩ g_need_kind) :=
  fn_H ["kind"] ["kind"] 1 1 2 m_need_kind rfl rfl F sc_need_kind fun cdv A outer s H E a0 hr =>
   (ss_one (s_if (t_not (t_val (e_callC C_is_among (hr.mono (by decide)) (by exact rfl) pxE (a_cons (e_var (pv 0)) (a_cons (e_const pe_int fun _ => .int _) (a_cons (e_const (pe_gcD (by exact rfl) K_MOST_KIND) fun _ => .int _) a_nil))))))
    (ss_one s_never)
    ss_nil))
theorem ok_need_chain (F : FnP K "need_chain" "need_chain" s_need_chain f fd) (C_is_chain : FnC P w K mg base cls "is_chain" 4 g_is_chain) : FnOk P w K mg base (L2.CX P w) 5 f fd ["picture", "chain"] (spG ⟨K, cls, none⟩ g_need_chain) :=
  fn_H ["picture", "chain"] ["picture", "chain"] 2 2 4 m_need_chain rfl rfl F sc_need_chain fun cdv A outer s H E a0 hr =>
   (ss_one (s_if (t_not (t_val (e_callC C_is_chain (hr.mono (by decide)) (by exact rfl) pxE (a_cons (e_var (pv 0)) (a_cons (e_var (pv 1)) a_nil)))))
    (ss_one s_never)
    ss_nil))
theorem ok_Basis_rank (F : FnP K "rank" "Basis.rank" s_Basis_rank f fd) (A_Basis_kept : AttrOk ⟨K, cls, none⟩ "Basis" "kept") (B_len : mg "len" = none) : FnOk P w K mg base (L2.CX P w) 1 f fd ["self"] (spG ⟨K, cls, none⟩ g_Basis_rank) :=
  fn_H ["self"] ["self"] 1 1 0 m_Basis_rank rfl rfl F sc_Basis_rank fun cdv A outer s H E a0 hr =>
   (ss_one (s_ret (e_klen (M := ⟨K, cls, a0⟩) ⟨A_Basis_kept.cl, A_Basis_kept.no⟩ rfl (pv 0) (by exact rfl) B_len)))
end
end DL
end

section
set_option Elab.async false
set_option linter.all false
set_option maxRecDepth 100000
set_option autoImplicit false
set_option maxHeartbeats 4000000
namespace DL
open PySem PySem.Spec PyProof.Rows L2
section
variable {P : Program} {w : World} {K : PySem.W.Frag} {mg : Str → Option Value} {base : Heap} {cls : Str → Addr} {f : Addr} {fd : FuncData}
theorem ok_Picture___init__ (F : FnP K "__init__" "Picture.__init__" s_Picture___init__ f fd) (B_len : mg "len" = none) (K_MOST_THINGS : GC mg "MOST_THINGS" (.int 22)) (B_isinstance : mg "isinstance" = none) (B_list : mg "list" = none) (B_tuple : mg "tuple" = none) (C_need_items : FnC P w K mg base cls "need_items" 5 g_need_items) (K_MOST_POINTS : GC mg "MOST_POINTS" (.int 7)) (C_lacking : FnC P w K mg base cls "lacking" 2 g_lacking) (C_in_row : FnC P w K mg base cls "in_row" 1 g_in_row) (B_sorted : mg "sorted" = none) (A_Picture_row : AttrOk ⟨K, cls, none⟩ "Picture" "row") (A_Picture_times : AttrOk ⟨K, cls, none⟩ "Picture" "times") : FnOk P w K mg base (L2.CX P w) 6 f fd ["self", "things"] (spG ⟨K, cls, none⟩ g_Picture___init__) :=
  fn_H ["self", "things", "thing", "time", "wrong", "pairs"] ["self", "things"] 2 6 5 m_Picture___init__ rfl rfl F sc_Picture___init__ fun cdv A outer s H E a0 hr =>
   (ss_cons (s_if (w_or (t_not (t_val (e_isi2 .lst .tup rfl rfl rfl (by exact rfl) B_isinstance (e_var (pv 1)) (pe_tyName (by exact rfl) B_list (by kernel_rfl)) (pe_tyName (by exact rfl) B_tuple (by kernel_rfl))))) (w_or1 (t_not (t_chain op_le op_le os_le os_le (e_const pe_int fun _ => .int _) (e_callB call_len cs_len (by exact rfl) B_len (by kernel_rfl) (a_cons (e_var (pv 1)) a_nil)) (e_const (pe_gcD (by exact rfl) K_MOST_THINGS) fun _ => .int _) (by with_unfolding_all rfl))))).pt
    (ss_one s_never)
    ss_nil)
    (ss_cons (s_expr (e_callC C_need_items (hr.mono (by decide)) (by exact rfl) pxE (a_cons (e_var (pv 1)) a_nil)))
    (ss_cons (s_if (t_cmp op_gt os_gt (e_callB call_len cs_len (by exact rfl) B_len (by kernel_rfl) (a_cons (e_lc (own := [("thing", 2), ("time", 3)]) (me := (constM (.int 1))) rfl sc_Picture___init__.nd (i_seqZ rfl (e_var (pv 1))) (blkOk_of (N := ["self", "things", "thing", "time", "wrong", "pairs"]) (sc := defScope s_Picture___init__) (by decide +kernel)) (fun _ _ _ _ _ => (g_tup (n := 2) rfl (gs_cons (g_name (i := 2) sc_Picture___init__.nd rfl (by first | exact .inl rfl | exact .inr rfl)) (gs_cons (g_name (i := 3) sc_Picture___init__.nd rfl (by first | exact .inl rfl | exact .inr rfl)) gs_nil)))) (fun _ _ _ _ _ => (ts_one (t_cmp (op_eqP hr.units) (os_eq false) (e_callB call_len cs_len (by exact rfl) B_len (by kernel_rfl) (a_cons (e_var (pv 2)) a_nil)) (e_const pe_int fun _ => .int _) (by with_unfolding_all rfl)))) (fun _ _ _ _ _ => (e_const pe_int fun _ => .int _))) a_nil)) (e_const (pe_gcD (by exact rfl) K_MOST_POINTS) fun _ => .int _) (by with_unfolding_all rfl))
    (ss_one s_never)
    ss_nil)
    (ss_cons (s_set (i := 4) sc_Picture___init__.nd rfl (by first | exact .inl rfl | exact .inr rfl) (e_callC C_lacking (hr.mono (by decide)) (by exact rfl) pxE (a_cons (e_var (pv 1)) a_nil)))
    (ss_cons (s_if (t_cmp op_isNotAll (os_is true) (e_var (pv 4)) (e_const pe_non fun _ => .non) (by with_unfolding_all rfl))
    (ss_one s_never)
    ss_nil)
    (ss_cons (s_set (i := 5) sc_Picture___init__.nd rfl (by first | exact .inl rfl | exact .inr rfl) (e_sortK C_in_row (hr.mono (by decide)) (by exact rfl) B_sorted (by exact rfl) (e_var (pv 1))))
    (ss_cons (s_fld (c := "Picture") (M := ⟨K, cls, a0⟩) ⟨A_Picture_row.cl, A_Picture_row.no⟩ rfl (pv 0) (e_callTy call_tupK cs_tupK (by exact rfl) B_tuple (by kernel_rfl) (a_cons (e_lc (own := [("thing", 2), ("time", 3)]) (me := (varM 2)) rfl sc_Picture___init__.nd (i_seqZ rfl (e_var (pv 5))) (blkOk_of (N := ["self", "things", "thing", "time", "wrong", "pairs"]) (sc := defScope s_Picture___init__) (by decide +kernel)) (fun _ _ _ _ _ => (g_tup (n := 2) rfl (gs_cons (g_name (i := 2) sc_Picture___init__.nd rfl (by first | exact .inl rfl | exact .inr rfl)) (gs_cons (g_name (i := 3) sc_Picture___init__.nd rfl (by first | exact .inl rfl | exact .inr rfl)) gs_nil)))) (fun _ _ _ _ _ => ts_nil) (fun _ _ _ _ _ => (e_var (pv 2)))) a_nil)))
    (ss_one (s_fld (c := "Picture") (M := ⟨K, cls, a0⟩) ⟨A_Picture_times.cl, A_Picture_times.no⟩ rfl (pv 0) (e_callTy call_tuple_of cs_tup (by exact rfl) B_tuple (by kernel_rfl) (a_cons (e_lc (own := [("thing", 2), ("time", 3)]) (me := (varM 3)) rfl sc_Picture___init__.nd (i_seqZ rfl (e_var (pv 5))) (blkOk_of (N := ["self", "things", "thing", "time", "wrong", "pairs"]) (sc := defScope s_Picture___init__) (by decide +kernel)) (fun _ _ _ _ _ => (g_tup (n := 2) rfl (gs_cons (g_name (i := 2) sc_Picture___init__.nd rfl (by first | exact .inl rfl | exact .inr rfl)) (gs_cons (g_name (i := 3) sc_Picture___init__.nd rfl (by first | exact .inl rfl | exact .inr rfl)) gs_nil)))) (fun _ _ _ _ _ => ts_nil) (fun _ _ _ _ _ => (e_var (pv 3)))) a_nil)))))))))))
theorem ok_bars (F : FnP K "bars" "bars" s_bars f fd) (C_need_kind : FnC P w K mg base cls "need_kind" 3 g_need_kind) (M_Pairing : MkC P w K mg base cls "Pairing" 4 g_Pairing___init__) (A_Pairing_ends : AttrOk ⟨K, cls, none⟩ "Pairing" "ends") (A_Picture_times : AttrOk ⟨K, cls, none⟩ "Picture" "times") (A_Picture_row : AttrOk ⟨K, cls, none⟩ "Picture" "row") (B_len : mg "len" = none) (B_sorted : mg "sorted" = none) (B_tuple : mg "tuple" = none) : FnOk P w K mg base (L2.CX P w) 6 f fd ["picture", "kind"] (spG ⟨K, cls, none⟩ g_bars) :=
  fn_H ["picture", "kind", "found", "birth", "death"] ["picture", "kind"] 2 5 5 m_bars rfl rfl F sc_bars fun cdv A outer s H E a0 hr =>
   (ss_cons (s_expr (e_callC C_need_kind (hr.mono (by decide)) (by exact rfl) pxE (a_cons (e_var (pv 1)) a_nil)))
    (ss_cons (s_set (i := 2) sc_bars.nd rfl (by first | exact .inl rfl | exact .inr rfl) (e_lst d_nil))
    (ss_cons (s_for ownE rfl (i_items (e_fld (cs := ["Pairing"]) rfl (attr1 A_Pairing_ends) (e_makeC M_Pairing (hr.mono (by decide)) (by exact rfl) pxE (a_cons (e_var (pv 0)) a_nil)) rfl)) (g_tup (n := 2) rfl (gs_cons (g_name (i := 3) sc_bars.nd rfl (by first | exact .inl rfl | exact .inr rfl)) (gs_cons (g_name (i := 4) sc_bars.nd rfl (by first | exact .inl rfl | exact .inr rfl)) gs_nil)))
    (ss_one (s_if (w_and (t_cmp (op_eqP hr.units) (os_eq false) (e_callB call_len cs_len (by exact rfl) B_len (by kernel_rfl) (a_cons (e_ix (ix_all hr.units) os_ix (e_fld (cs := ["Picture"]) rfl (attr1 A_Picture_row) (e_var (pv 0)) rfl) (e_var (pv 3)) (by intro _ _; rfl)) a_nil)) (e_bin op_addAll os_add (e_var (pv 1)) (e_const pe_int fun _ => .int _)) (by with_unfolding_all rfl)) (w_and1 (t_cmp (op_neP hr.units) (os_eq true) (e_ix (ix_all hr.units) os_ix (e_fld (cs := ["Picture"]) rfl (attr1 A_Picture_times) (e_var (pv 0)) rfl) (e_var (pv 3)) (by intro _ _; rfl)) (e_ix (ix_all hr.units) os_ix (e_fld (cs := ["Picture"]) rfl (attr1 A_Picture_times) (e_var (pv 0)) rfl) (e_var (pv 4)) (by intro _ _; rfl)) (by with_unfolding_all rfl)))).pt
    (ss_one (s_expr (e_append (pv 2) (e_tup (d_cons (e_ix (ix_all hr.units) os_ix (e_fld (cs := ["Picture"]) rfl (attr1 A_Picture_times) (e_var (pv 0)) rfl) (e_var (pv 3)) (by intro _ _; rfl)) (d_cons (e_ix (ix_all hr.units) os_ix (e_fld (cs := ["Picture"]) rfl (attr1 A_Picture_times) (e_var (pv 0)) rfl) (e_var (pv 4)) (by intro _ _; rfl)) d_nil))))))
    ss_nil)))
    (ss_one (s_ret (e_callTy call_tuple_of cs_tup (by exact rfl) B_tuple (by kernel_rfl) (a_cons (e_callB (call_sortedD hr.units) cs_sorted (by exact rfl) B_sorted (by kernel_rfl) (a_cons (e_var (pv 2)) a_nil)) a_nil)))))))
theorem ok_is_last (F : FnP K "is_last" "is_last" s_is_last f fd) (B_len : mg "len" = none) (A_Picture_row : AttrOk ⟨K, cls, none⟩ "Picture" "row") (C_is_chain : FnC P w K mg base cls "is_chain" 4 g_is_chain) (C_number_in : FnC P w K mg base cls "number_in" 1 g_number_in) (B_max : mg "max" = none) : FnOk P w K mg base (L2.CX P w) 5 f fd ["picture", "chain", "number"] (spG ⟨K, cls, none⟩ g_is_last) :=
  fn_H ["picture", "chain", "number", "thing"] ["picture", "chain", "number"] 3 4 4 m_is_last rfl rfl F sc_is_last fun cdv A outer s H E a0 hr =>
   (ss_cons (s_if (w_or (t_not (t_val (e_callC C_is_chain (hr.mono (by decide)) (by exact rfl) pxE (a_cons (e_var (pv 0)) (a_cons (e_var (pv 1)) a_nil))))) (w_or (t_cmp (op_eqP hr.units) (os_eq false) (e_var (pv 1)) (e_tup d_nil) (by with_unfolding_all rfl)) (w_or1 (t_cmp (op_neP hr.units) (os_eq true) (e_callB call_len cs_len (by exact rfl) B_len (by kernel_rfl) (a_cons (e_ix (ix_all hr.units) os_ix (e_var (pv 1)) (e_const pe_int fun _ => .int _) (by intro _ _; rfl)) a_nil)) (e_callB call_len cs_len (by exact rfl) B_len (by kernel_rfl) (a_cons (e_ix (ix_all hr.units) os_ix (e_fld (cs := ["Picture"]) rfl (attr1 A_Picture_row) (e_var (pv 0)) rfl) (e_var (pv 2)) (by intro _ _; rfl)) a_nil)) (by with_unfolding_all rfl))))).pt
    (ss_one (s_ret (e_const pe_bl fun _ => .bl _)))
    ss_nil)
    (ss_one (s_ret (e_cmp (op_eqP hr.units) (os_eq false) (e_callB (cr_max rfl) cs_max (by exact rfl) B_max (by kernel_rfl) (a_cons (e_lc (own := [("thing", 3)]) (me := (callM (callG g_number_in) (consA (varM 0) (consA (varM 3) nilA)))) rfl sc_is_last.nd (i_seqZ rfl (e_var (pv 1))) (blkOk_of (N := ["picture", "chain", "number", "thing"]) (sc := defScope s_is_last) (by decide +kernel)) (fun _ _ _ _ _ => (g_name (i := 3) sc_is_last.nd rfl (by first | exact .inl rfl | exact .inr rfl))) (fun _ _ _ _ _ => ts_nil) (fun _ _ _ _ _ => (e_callC C_number_in (hr.mono (by decide)) (by exact rfl) passL (a_cons (e_var (pv 0)) (a_cons (e_var (pv 3)) a_nil))))) a_nil)) (e_var (pv 2)) (by with_unfolding_all rfl)))))
theorem ok_is_word (F : FnP K "is_word" "is_word" s_is_word f fd) (K_LETTERS : GC mg "LETTERS" (.str "abcdefghijklmnopqrstuvwxyz")) (B_all : mg "all" = none) (B_len : mg "len" = none) (K_MOST_LETTERS : GC mg "MOST_LETTERS" (.int 8)) (B_isinstance : mg "isinstance" = none) (B_str : mg "str" = none) : FnOk P w K mg base (L2.CX P w) 1 f fd ["thing"] (spG ⟨K, cls, none⟩ g_is_word) :=
  fn_H ["thing", "letter"] ["thing"] 1 2 0 m_is_word rfl rfl F sc_is_word fun cdv A outer s H E a0 hr =>
   (ss_one (s_ret (e_and (e_isi .str rfl rfl (by exact rfl) B_isinstance (e_var (pv 0)) (pe_tyName (by exact rfl) B_str (by kernel_rfl))) (e_and (e_chain op_le op_le os_le os_le (e_const pe_int fun _ => .int _) (e_callB call_len cs_len (by exact rfl) B_len (by kernel_rfl) (a_cons (e_var (pv 0)) a_nil)) (e_const (pe_gcD (by exact rfl) K_MOST_LETTERS) fun _ => .int _) (by with_unfolding_all rfl)) (e_one (e_callB (cr_all rfl) cs_all (by exact rfl) B_all (by kernel_rfl) (a_cons (e_lc (own := [("letter", 1)]) (me := (bin (inF false) (varM 1) (constM (.str "abcdefghijklmnopqrstuvwxyz")))) rfl sc_is_word.nd (i_seqZ rfl (e_var (pv 0))) (blkOk_of (N := ["thing", "letter"]) (sc := defScope s_is_word) (by decide +kernel)) (fun _ _ _ _ _ => (g_name (i := 1) sc_is_word.nd rfl (by first | exact .inl rfl | exact .inr rfl))) (fun _ _ _ _ _ => ts_nil) (fun _ _ _ _ _ => (e_cmp (op_inAll hr.units) (os_in false) (e_var (pv 1)) (e_const (pe_gcD (by exact rfl) K_LETTERS) fun _ => .str _) (by with_unfolding_all rfl)))) a_nil)))))))
theorem ok_Picture_with_thing (F : FnP K "with_thing" "Picture.with_thing" s_Picture_with_thing f fd) (A_Picture_row : AttrOk ⟨K, cls, none⟩ "Picture" "row") (B_len : mg "len" = none) (K_MOST_THINGS : GC mg "MOST_THINGS" (.int 22)) (M_Picture : MkC P w K mg base cls "Picture" 6 g_Picture___init__) (T_Picture_pairs : MetC P w K mg base cls "Picture" "pairs" 1 g_Picture_pairs) : FnOk P w K mg base (L2.CX P w) 8 f fd ["self", "thing", "time"] (spG ⟨K, cls, none⟩ g_Picture_with_thing) :=
  fn_H ["self", "thing", "time"] ["self", "thing", "time"] 3 3 7 m_Picture_with_thing rfl rfl F sc_Picture_with_thing fun cdv A outer s H E a0 hr =>
   (ss_cons (s_if (t_cmp (op_eqP hr.units) (os_eq false) (e_callB call_len cs_len (by exact rfl) B_len (by kernel_rfl) (a_cons (e_fld (cs := ["Picture"]) rfl (attr1 A_Picture_row) (e_var (pv 0)) rfl) a_nil)) (e_const (pe_gcD (by exact rfl) K_MOST_THINGS) fun _ => .int _) (by with_unfolding_all rfl))
    (ss_one s_never)
    ss_nil)
    (ss_one (s_ret (e_makeC M_Picture (hr.mono (by decide)) (by exact rfl) pxE (a_cons (e_lst (d_star rfl (e_meth0C T_Picture_pairs (e_var (pv 0)) (hr.mono (by decide)) pxE) (d_cons (e_tup (d_cons (e_var (pv 1)) (d_cons (e_var (pv 2)) d_nil))) d_nil))) a_nil)))))
theorem ok_figures_of (F : FnP K "figures_of" "figures_of" s_figures_of f fd) (C_number_in : FnC P w K mg base cls "number_in" 1 g_number_in) (B_sum : mg "sum" = none) : FnOk P w K mg base (L2.CX P w) 2 f fd ["picture", "chain"] (spG ⟨K, cls, none⟩ g_figures_of) :=
  fn_H ["picture", "chain", "thing"] ["picture", "chain"] 2 3 1 m_figures_of rfl rfl F sc_figures_of fun cdv A outer s H E a0 hr =>
   (ss_one (s_ret (e_callB (cr_sum rfl) cs_sum (by exact rfl) B_sum (by kernel_rfl) (a_cons (e_lc (own := [("thing", 2)]) (me := (bin shlF (constM (.int 1)) (callM (callG g_number_in) (consA (varM 0) (consA (varM 2) nilA))))) rfl sc_figures_of.nd (i_seqZ rfl (e_var (pv 1))) (blkOk_of (N := ["picture", "chain", "thing"]) (sc := defScope s_figures_of) (by decide +kernel)) (fun _ _ _ _ _ => (g_name (i := 2) sc_figures_of.nd rfl (by first | exact .inl rfl | exact .inr rfl))) (fun _ _ _ _ _ => ts_nil) (fun _ _ _ _ _ => (e_bin op_shl os_shl (e_const pe_int fun _ => .int _) (e_callC C_number_in (hr.mono (by decide)) (by exact rfl) passL (a_cons (e_var (pv 0)) (a_cons (e_var (pv 2)) a_nil)))))) a_nil))))
theorem ok_need_place (F : FnP K "need_place" "need_place" s_need_place f fd) (C_is_among : FnC P w K mg base cls "is_among" 2 g_is_among) (A_Picture_row : AttrOk ⟨K, cls, none⟩ "Picture" "row") (B_len : mg "len" = none) : FnOk P w K mg base (L2.CX P w) 3 f fd ["picture", "number"] (spG ⟨K, cls, none⟩ g_need_place) :=
  fn_H ["picture", "number"] ["picture", "number"] 2 2 2 m_need_place rfl rfl F sc_need_place fun cdv A outer s H E a0 hr =>
   (ss_one (s_if (t_not (t_val (e_callC C_is_among (hr.mono (by decide)) (by exact rfl) pxE (a_cons (e_var (pv 1)) (a_cons (e_const pe_int fun _ => .int _) (a_cons (e_bin op_sub os_sub (e_callB call_len cs_len (by exact rfl) B_len (by kernel_rfl) (a_cons (e_fld (cs := ["Picture"]) rfl (attr1 A_Picture_row) (e_var (pv 0)) rfl) a_nil)) (e_const pe_int fun _ => .int _)) a_nil))))))
    (ss_one s_never)
    ss_nil))
theorem ok_is_filled (F : FnP K "is_filled" "is_filled" s_is_filled f fd) (C_filling : FnC P w K mg base cls "filling" 7 g_filling) : FnOk P w K mg base (L2.CX P w) 8 f fd ["picture", "chain", "time"] (spG ⟨K, cls, none⟩ g_is_filled) :=
  fn_H ["picture", "chain", "time"] ["picture", "chain", "time"] 3 3 7 m_is_filled rfl rfl F sc_is_filled fun cdv A outer s H E a0 hr =>
   (ss_one (s_ret (e_cmp op_isNotAll (os_is true) (e_callC C_filling (hr.mono (by decide)) (by exact rfl) pxE (a_cons (e_var (pv 0)) (a_cons (e_var (pv 1)) (a_cons (e_var (pv 2)) a_nil)))) (e_const pe_non fun _ => .non) (by with_unfolding_all rfl))))
theorem ok_Picture___len__ (F : FnP K "__len__" "Picture.__len__" s_Picture___len__ f fd) (A_Picture_row : AttrOk ⟨K, cls, none⟩ "Picture" "row") (B_len : mg "len" = none) : FnOk P w K mg base (L2.CX P w) 1 f fd ["self"] (spG ⟨K, cls, none⟩ g_Picture___len__) :=
  fn_H ["self"] ["self"] 1 1 0 m_Picture___len__ rfl rfl F sc_Picture___len__ fun cdv A outer s H E a0 hr =>
   (ss_one (s_ret (e_callB call_len cs_len (by exact rfl) B_len (by kernel_rfl) (a_cons (e_fld (cs := ["Picture"]) rfl (attr1 A_Picture_row) (e_var (pv 0)) rfl) a_nil))))
theorem ok_Basis___init__ (F : FnP K "__init__" "Basis.__init__" s_Basis___init__ f fd) (A_Basis_kept : AttrOk ⟨K, cls, none⟩ "Basis" "kept") : FnOk P w K mg base (L2.CX P w) 1 f fd ["self"] (spG ⟨K, cls, none⟩ g_Basis___init__) :=
  fn_H ["self"] ["self"] 1 1 0 m_Basis___init__ rfl rfl F sc_Basis___init__ fun cdv A outer s H E a0 hr =>
   (ss_one (s_kinit (M := ⟨K, cls, a0⟩) ⟨A_Basis_kept.cl, A_Basis_kept.no⟩ rfl (pv 0)))
end
end DL
end

section
set_option Elab.async false
set_option linter.all false
set_option maxRecDepth 100000
set_option autoImplicit false
set_option maxHeartbeats 4000000
namespace DL
open PySem PySem.Spec PyProof.Rows L2
section
variable {P : Program} {w : World} {K : PySem.W.Frag} {mg : Str → Option Value} {base : Heap} {cls : Str → Addr} {f : Addr} {fd : FuncData}
theorem ok_Picture_timed (F : FnP K "timed" "Picture.timed" s_Picture_timed f fd) (T_Picture_need_thing : MetC P w K mg base cls "Picture" "need_thing" 4 g_Picture_need_thing) (C_need_time : FnC P w K mg base cls "need_time" 4 g_need_time) (T_Picture_pairs : MetC P w K mg base cls "Picture" "pairs" 1 g_Picture_pairs) (C_lacking : FnC P w K mg base cls "lacking" 2 g_lacking) (M_Picture : MkC P w K mg base cls "Picture" 6 g_Picture___init__) : FnOk P w K mg base (L2.CX P w) 8 f fd ["self", "thing", "time"] (spG ⟨K, cls, none⟩ g_Picture_timed) :=
  fn_H ["self", "thing", "time", "pairs", "one", "old", "wrong"] ["self", "thing", "time"] 3 7 7 m_Picture_timed rfl rfl F sc_Picture_timed fun cdv A outer s H E a0 hr =>
   (ss_cons (s_expr (e_methC T_Picture_need_thing (e_var (pv 0)) (hr.mono (by decide)) pxE (a_cons (e_var (pv 1)) a_nil)))
    (ss_cons (s_expr (e_callC C_need_time (hr.mono (by decide)) (by exact rfl) pxE (a_cons (e_var (pv 2)) a_nil)))
    (ss_cons (by first | exact (s_set (i := 3) sc_Picture_timed.nd rfl (by first | exact .inl rfl | exact .inr rfl) (e_lc (own := [("one", 4), ("old", 5)]) (me := (tupM (consD (varM 4) (consD (ifM (testM (bin (eqF false) (varM 4) (varM 1))) (varM 2) (varM 5)) nilD)))) rfl sc_Picture_timed.nd (i_seqZ rfl (e_meth0C T_Picture_pairs (e_var (pv 0)) (hr.mono (by decide)) pxE)) (blkOk_of (N := ["self", "thing", "time", "pairs", "one", "old", "wrong"]) (sc := defScope s_Picture_timed) (by decide +kernel)) (fun _ _ _ _ _ => (g_tup (n := 2) rfl (gs_cons (g_name (i := 4) sc_Picture_timed.nd rfl (by first | exact .inl rfl | exact .inr rfl)) (gs_cons (g_name (i := 5) sc_Picture_timed.nd rfl (by first | exact .inl rfl | exact .inr rfl)) gs_nil)))) (fun _ _ _ _ _ => ts_nil) (fun _ _ _ _ _ => (e_tup (d_cons (e_var (pv 4)) (d_cons (e_if (t_cmp (op_eqP hr.units) (os_eq false) (e_var (pv 4)) (e_var (pv 1)) (by with_unfolding_all rfl)) (e_var (pv 2)) (e_var (pv 5))) d_nil)))))) | exact (s_setLc (i := 3) (own := [("one", 4), ("old", 5)]) (me := (tupM (consD (varM 4) (consD (ifM (testM (bin (eqF false) (varM 4) (varM 1))) (varM 2) (varM 5)) nilD)))) rfl sc_Picture_timed.nd rfl rfl (by with_unfolding_all rfl) (i_seqZ rfl (e_meth0C T_Picture_pairs (e_var (pv 0)) (hr.mono (by decide)) pxE)) (blkOk_of (N := ["self", "thing", "time", "pairs", "one", "old", "wrong"]) (sc := defScope s_Picture_timed) (by decide +kernel)) (fun _ _ _ _ _ => (g_tup (n := 2) rfl (gs_cons (g_name (i := 4) sc_Picture_timed.nd rfl (by first | exact .inl rfl | exact .inr rfl)) (gs_cons (g_name (i := 5) sc_Picture_timed.nd rfl (by first | exact .inl rfl | exact .inr rfl)) gs_nil)))) (fun _ _ _ _ _ => ts_nil) (fun _ _ _ _ _ => (e_tup (d_cons (e_var (pv 4)) (d_cons (e_if (t_cmp (op_eqP hr.units) (os_eq false) (e_var (pv 4)) (e_var (pv 1)) (by with_unfolding_all rfl)) (e_var (pv 2)) (e_var (pv 5))) d_nil))))))
    (ss_cons (s_set (i := 6) sc_Picture_timed.nd rfl (by first | exact .inl rfl | exact .inr rfl) (e_callC C_lacking (hr.mono (by decide)) (by exact rfl) pxE (a_cons (e_var (pv 3)) a_nil)))
    (ss_cons (s_if (t_cmp op_isNotAll (os_is true) (e_var (pv 6)) (e_const pe_non fun _ => .non) (by with_unfolding_all rfl))
    (ss_one s_never)
    ss_nil)
    (ss_one (s_ret (e_makeC M_Picture (hr.mono (by decide)) (by exact rfl) pxE (a_cons (e_var (pv 3)) a_nil)))))))))
theorem ok_lasting (F : FnP K "lasting" "lasting" s_lasting f fd) (C_need_kind : FnC P w K mg base cls "need_kind" 3 g_need_kind) (M_Pairing : MkC P w K mg base cls "Pairing" 4 g_Pairing___init__) (T_Pairing_enders : MetC P w K mg base cls "Pairing" "enders" 1 g_Pairing_enders) (B_enumerate : mg "enumerate" = none) (A_Picture_row : AttrOk ⟨K, cls, none⟩ "Picture" "row") (A_Pairing_ends : AttrOk ⟨K, cls, none⟩ "Pairing" "ends") (B_len : mg "len" = none) (A_Picture_times : AttrOk ⟨K, cls, none⟩ "Picture" "times") (B_tuple : mg "tuple" = none) : FnOk P w K mg base (L2.CX P w) 6 f fd ["picture", "kind"] (spG ⟨K, cls, none⟩ g_lasting) :=
  fn_H ["picture", "kind", "pairing", "found", "enders", "number", "thing"] ["picture", "kind"] 2 7 5 m_lasting rfl rfl F sc_lasting fun cdv A outer s H E a0 hr =>
   (ss_cons (s_expr (e_callC C_need_kind (hr.mono (by decide)) (by exact rfl) pxE (a_cons (e_var (pv 1)) a_nil)))
    (ss_cons (s_par2 (i := 2) (j := 3) rfl sc_lasting.nd rfl rfl (by decide) rfl rfl (e_makeC M_Pairing (hr.mono (by decide)) (by exact rfl) pxE (a_cons (e_var (pv 0)) a_nil)) (e_lst d_nil) (by with_unfolding_all rfl) (by with_unfolding_all rfl))
    (ss_cons (s_set (i := 4) sc_lasting.nd rfl (by first | exact .inl rfl | exact .inr rfl) (e_meth0C T_Pairing_enders (e_var (pv 2)) (hr.mono (by decide)) pxE))
    (ss_cons (s_for ownE rfl (i_enum rfl (by exact rfl) B_enumerate (a_fz (d_cons (e_fld (cs := ["Picture"]) rfl (attr1 A_Picture_row) (e_var (pv 0)) rfl) d_nil))) (g_tup (n := 2) rfl (gs_cons (g_name (i := 5) sc_lasting.nd rfl (by first | exact .inl rfl | exact .inr rfl)) (gs_cons (g_name (i := 6) sc_lasting.nd rfl (by first | exact .inl rfl | exact .inr rfl)) gs_nil)))
    (ss_one (s_if (w_and (t_cmp (op_eqP hr.units) (os_eq false) (e_callB call_len cs_len (by exact rfl) B_len (by kernel_rfl) (a_cons (e_var (pv 6)) a_nil)) (e_bin op_addAll os_add (e_var (pv 1)) (e_const pe_int fun _ => .int _)) (by with_unfolding_all rfl)) (w_and (t_cmp (op_notInAll hr.units) (os_in true) (e_var (pv 5)) (e_var (pv 4)) (by with_unfolding_all rfl)) (w_and1 (t_cmp (op_notInAll hr.units) (os_in true) (e_var (pv 5)) (e_fld (cs := ["Pairing"]) rfl (attr1 A_Pairing_ends) (e_var (pv 2)) rfl) (by with_unfolding_all rfl))))).pt
    (ss_one (s_expr (e_append (pv 3) (e_ix (ix_all hr.units) os_ix (e_fld (cs := ["Picture"]) rfl (attr1 A_Picture_times) (e_var (pv 0)) rfl) (e_var (pv 5)) (by intro _ _; rfl)))))
    ss_nil)))
    (ss_one (s_ret (e_callTy call_tuple_of cs_tup (by exact rfl) B_tuple (by kernel_rfl) (a_cons (e_var (pv 3)) a_nil))))))))
theorem ok_holes (F : FnP K "holes" "holes" s_holes f fd) (C_need_kind : FnC P w K mg base cls "need_kind" 3 g_need_kind) (C_need_time : FnC P w K mg base cls "need_time" 4 g_need_time) (C_numbers_there : FnC P w K mg base cls "numbers_there" 1 g_numbers_there) (T_Basis_rank : MetC P w K mg base cls "Basis" "rank" 1 g_Basis_rank) (C_basis_of : FnC P w K mg base cls "basis_of" 4 g_basis_of) (B_len : mg "len" = none) : FnOk P w K mg base (L2.CX P w) 5 f fd ["picture", "kind", "time"] (spG ⟨K, cls, none⟩ g_holes) :=
  fn_H ["picture", "kind", "time", "here", "ends"] ["picture", "kind", "time"] 3 5 4 m_holes rfl rfl F sc_holes fun cdv A outer s H E a0 hr =>
   (ss_cons (s_expr (e_callC C_need_kind (hr.mono (by decide)) (by exact rfl) pxE (a_cons (e_var (pv 1)) a_nil)))
    (ss_cons (s_expr (e_callC C_need_time (hr.mono (by decide)) (by exact rfl) pxE (a_cons (e_var (pv 2)) a_nil)))
    (ss_cons (s_set (i := 3) sc_holes.nd rfl (by first | exact .inl rfl | exact .inr rfl) (e_callC C_numbers_there (hr.mono (by decide)) (by exact rfl) pxE (a_cons (e_var (pv 0)) (a_cons (e_var (pv 1)) (a_cons (e_var (pv 2)) a_nil)))))
    (ss_cons (s_set (i := 4) sc_holes.nd rfl (by first | exact .inl rfl | exact .inr rfl) (e_meth0C T_Basis_rank (e_callC C_basis_of (hr.mono (by decide)) (by exact rfl) pxE (a_cons (e_var (pv 0)) (a_cons (e_callC C_numbers_there (hr.mono (by decide)) (by exact rfl) pxE (a_cons (e_var (pv 0)) (a_cons (e_bin op_addAll os_add (e_var (pv 1)) (e_const pe_int fun _ => .int _)) (a_cons (e_var (pv 2)) a_nil)))) a_nil))) (hr.mono (by decide)) pxE))
    (ss_one (s_ret (e_bin op_sub os_sub (e_bin op_sub os_sub (e_callB call_len cs_len (by exact rfl) B_len (by kernel_rfl) (a_cons (e_var (pv 3)) a_nil)) (e_meth0C T_Basis_rank (e_callC C_basis_of (hr.mono (by decide)) (by exact rfl) pxE (a_cons (e_var (pv 0)) (a_cons (e_var (pv 3)) a_nil))) (hr.mono (by decide)) pxE)) (e_var (pv 4)))))))))
theorem ok_chain_of (F : FnP K "chain_of" "chain_of" s_chain_of f fd) (B_enumerate : mg "enumerate" = none) (A_Picture_row : AttrOk ⟨K, cls, none⟩ "Picture" "row") (B_sorted : mg "sorted" = none) (B_tuple : mg "tuple" = none) : FnOk P w K mg base (L2.CX P w) 1 f fd ["picture", "figures"] (spG ⟨K, cls, none⟩ g_chain_of) :=
  fn_H ["picture", "figures", "number", "thing"] ["picture", "figures"] 2 4 0 m_chain_of rfl rfl F sc_chain_of fun cdv A outer s H E a0 hr =>
   (ss_one (s_ret (e_callTy call_tuple_of cs_tup (by exact rfl) B_tuple (by kernel_rfl) (a_cons (e_callB (call_sortedD hr.units) cs_sorted (by exact rfl) B_sorted (by kernel_rfl) (a_cons (e_lc (own := [("number", 2), ("thing", 3)]) (me := (varM 3)) rfl sc_chain_of.nd (i_enum rfl (by exact rfl) B_enumerate (a_fz (d_cons (e_fld (cs := ["Picture"]) rfl (attr1 A_Picture_row) (e_var (pv 0)) rfl) d_nil))) (blkOk_of (N := ["picture", "figures", "number", "thing"]) (sc := defScope s_chain_of) (by decide +kernel)) (fun _ _ _ _ _ => (g_tup (n := 2) rfl (gs_cons (g_name (i := 2) sc_chain_of.nd rfl (by first | exact .inl rfl | exact .inr rfl)) (gs_cons (g_name (i := 3) sc_chain_of.nd rfl (by first | exact .inl rfl | exact .inr rfl)) gs_nil)))) (fun _ _ _ _ _ => (ts_one (t_cmp (op_eqP hr.units) (os_eq false) (e_bin op_and os_and (e_bin op_shr os_shr (e_var (pv 1)) (e_var (pv 2))) (e_const pe_int fun _ => .int _)) (e_const pe_int fun _ => .int _) (by with_unfolding_all rfl)))) (fun _ _ _ _ _ => (e_var (pv 3)))) a_nil)) a_nil))))
theorem ok_showings (F : FnP K "showings" "showings" s_showings f fd) (M_Pairing : MkC P w K mg base cls "Pairing" 4 g_Pairing___init__) (A_Pairing_chains : AttrOk ⟨K, cls, none⟩ "Pairing" "chains") (C_chain_of : FnC P w K mg base cls "chain_of" 1 g_chain_of) (B_tuple : mg "tuple" = none) : FnOk P w K mg base (L2.CX P w) 6 f fd ["picture"] (spG ⟨K, cls, none⟩ g_showings) :=
  fn_H ["picture", "chain"] ["picture"] 1 2 5 m_showings rfl rfl F sc_showings fun cdv A outer s H E a0 hr =>
   (ss_one (s_ret (e_callTy call_tuple_of cs_tup (by exact rfl) B_tuple (by kernel_rfl) (a_cons (e_lc (own := [("chain", 1)]) (me := (callM (callG g_chain_of) (consA (varM 0) (consA (varM 1) nilA)))) rfl sc_showings.nd (i_seqZ rfl (e_fld (cs := ["Pairing"]) rfl (attr1 A_Pairing_chains) (e_makeC M_Pairing (hr.mono (by decide)) (by exact rfl) pxE (a_cons (e_var (pv 0)) a_nil)) rfl)) (blkOk_of (N := ["picture", "chain"]) (sc := defScope s_showings) (by decide +kernel)) (fun _ _ _ _ _ => (g_name (i := 1) sc_showings.nd rfl (by first | exact .inl rfl | exact .inr rfl))) (fun _ _ _ _ _ => ts_nil) (fun _ _ _ _ _ => (e_callC C_chain_of (hr.mono (by decide)) (by exact rfl) passL (a_cons (e_var (pv 0)) (a_cons (e_var (pv 1)) a_nil))))) a_nil))))
theorem ok_Picture___eq__ (F : FnP K "__eq__" "Picture.__eq__" s_Picture___eq__ f fd) (A_Picture_times : AttrOk ⟨K, cls, none⟩ "Picture" "times") (A_Picture_row : AttrOk ⟨K, cls, none⟩ "Picture" "row") (I_Picture : IsC K mg cls "Picture") (B_isinstance : mg "isinstance" = none) : FnOk P w K mg base (L2.CX P w) 8 f fd ["self", "other"] (spG ⟨K, cls, none⟩ g_Picture___eq__) :=
  fn_H ["self", "other"] ["self", "other"] 2 2 7 m_Picture___eq__ rfl rfl F sc_Picture___eq__ fun cdv A outer s H E a0 hr =>
   (ss_one (s_ret (e_and (e_isc I_Picture rfl (by exact rfl) B_isinstance (e_var (pv 1))) (e_one (e_cmp (op_eqP hr.units) (os_eq false) (e_tup (d_cons (e_fld (cs := ["Picture"]) rfl (attr1 A_Picture_row) (e_var (pv 0)) rfl) (d_cons (e_fld (cs := ["Picture"]) rfl (attr1 A_Picture_times) (e_var (pv 0)) rfl) d_nil))) (e_tup (d_cons (e_fld (cs := ["Picture"]) rfl (attr1 A_Picture_row) (e_var (pv 1)) rfl) (d_cons (e_fld (cs := ["Picture"]) rfl (attr1 A_Picture_times) (e_var (pv 1)) rfl) d_nil))) (by with_unfolding_all rfl))))))
theorem ok_ended_by (F : FnP K "ended_by" "ended_by" s_ended_by f fd) (C_need_place : FnC P w K mg base cls "need_place" 3 g_need_place) (M_Pairing : MkC P w K mg base cls "Pairing" 4 g_Pairing___init__) (A_Pairing_ends : AttrOk ⟨K, cls, none⟩ "Pairing" "ends") : FnOk P w K mg base (L2.CX P w) 6 f fd ["picture", "number"] (spG ⟨K, cls, none⟩ g_ended_by) :=
  fn_H ["picture", "number"] ["picture", "number"] 2 2 5 m_ended_by rfl rfl F sc_ended_by fun cdv A outer s H E a0 hr =>
   (ss_cons (s_expr (e_callC C_need_place (hr.mono (by decide)) (by exact rfl) pxE (a_cons (e_var (pv 0)) (a_cons (e_var (pv 1)) a_nil))))
    (ss_one (s_ret (e_get hr.units (e_fld (cs := ["Pairing"]) rfl (attr1 A_Pairing_ends) (e_makeC M_Pairing (hr.mono (by decide)) (by exact rfl) pxE (a_cons (e_var (pv 0)) a_nil)) rfl) (e_var (pv 1)) ⟨rfl, rfl, rfl, rfl⟩))))
theorem ok_is_number (F : FnP K "is_number" "is_number" s_is_number f fd) (B_isinstance : mg "isinstance" = none) (B_bool : mg "bool" = none) (B_int : mg "int" = none) : FnOk P w K mg base (L2.CX P w) 1 f fd ["thing"] (spG ⟨K, cls, none⟩ g_is_number) :=
  fn_H ["thing"] ["thing"] 1 1 0 m_is_number rfl rfl F sc_is_number fun cdv A outer s H E a0 hr =>
   (ss_one (s_ret (e_and (e_isi .int rfl rfl (by exact rfl) B_isinstance (e_var (pv 0)) (pe_tyName (by exact rfl) B_int (by kernel_rfl))) (e_one (e_not (e_isi .bl rfl rfl (by exact rfl) B_isinstance (e_var (pv 0)) (pe_tyName (by exact rfl) B_bool (by kernel_rfl))))))))
theorem ok_is_ring (F : FnP K "is_ring" "is_ring" s_is_ring f fd) (C_edge : FnC P w K mg base cls "edge" 6 g_edge) : FnOk P w K mg base (L2.CX P w) 7 f fd ["picture", "chain"] (spG ⟨K, cls, none⟩ g_is_ring) :=
  fn_H ["picture", "chain"] ["picture", "chain"] 2 2 6 m_is_ring rfl rfl F sc_is_ring fun cdv A outer s H E a0 hr =>
   (ss_one (s_ret (e_cmp (op_eqP hr.units) (os_eq false) (e_callC C_edge (hr.mono (by decide)) (by exact rfl) pxE (a_cons (e_var (pv 0)) (a_cons (e_var (pv 1)) a_nil))) (e_tup d_nil) (by with_unfolding_all rfl))))
theorem ok_last_of (F : FnP K "last_of" "last_of" s_last_of f fd)  : FnOk P w K mg base (L2.CX P w) 1 f fd ["figures"] (spG ⟨K, cls, none⟩ g_last_of) :=
  fn_H ["figures"] ["figures"] 1 1 0 m_last_of rfl rfl F sc_last_of fun cdv A outer s H E a0 hr =>
   (ss_one (s_ret (e_bin op_sub os_sub (e_bits (e_var (pv 0))) (e_const pe_int fun _ => .int _))))
end
end DL
end

section
set_option Elab.async false
set_option linter.all false
set_option maxRecDepth 100000
set_option autoImplicit false
set_option maxHeartbeats 4000000
namespace DL
open PySem PySem.Spec PyProof.Rows L2
section
variable {P : Program} {w : World} {K : PySem.W.Frag} {mg : Str → Option Value} {base : Heap} {cls : Str → Addr} {f : Addr} {fd : FuncData}
theorem ok__law_next (F : FnP K "_law_next" "_law_next" s__law_next f fd) (B_int : mg "int" = none) (B_len : mg "len" = none) : FnOk P w K mg base (L2.CX P w) 10 f fd ["_law_m", "_law_many"] (spG ⟨K, cls, none⟩ g__law_next) :=
  fn_H ["_law_m", "_law_many", "_law_rest", "_law_at", "_law_bits", "_law_cell", "_law_blend"] ["_law_m", "_law_many"] 2 7 9 m__law_next rfl rfl F sc__law_next fun cdv A outer s H E a0 hr =>
   (ss_cons (s_while (fun _ => 1000) ownE (w_and (t_rne hr.units (pv 0)) (w_and1 (t_cmp (op_eqP hr.units) (os_eq false) (e_rleft0 hr.units (pv 0)) (e_const pe_int fun _ => .int _) (by with_unfolding_all rfl)))).pt
    (ss_one (s_rcut hr.units (pv 0) (pv 0))))
    (ss_cons (s_if (t_rne hr.units (pv 0))
    (ss_cons (s_set (i := 2) sc__law_next.nd rfl (by first | exact .inl rfl | exact .inr rfl) (e_rleft0 hr.units (pv 0)))
    (ss_cons (s_rput hr.units (pv 0) (e_bin op_fdiv os_fdiv (e_var (pv 2)) (e_var (pv 1))))
    (ss_one (s_ret (e_bin op_mod os_mod (e_callTy call_int1 cs_int1 (by exact rfl) B_int (by kernel_rfl) (a_cons (e_var (pv 2)) a_nil)) (e_var (pv 1)))))))
    ss_nil)
    (ss_cons (s_par2 (i := 3) (j := 4) rfl sc__law_next.nd rfl rfl (by decide) rfl rfl (e_bin op_addAll os_add (e_rat hr.units (pv 0)) (e_const pe_int fun _ => .int _)) (e_rcells hr.units (pv 0)) (by with_unfolding_all rfl) (by with_unfolding_all rfl))
    (ss_cons (s_rsetat hr.units (pv 0) (pv 3))
    (ss_cons (s_set (i := 5) sc__law_next.nd rfl (by first | exact .inl rfl | exact .inr rfl) (e_if (t_cmp (op_neP hr.units) (os_eq true) (e_var (pv 4)) (e_lst d_nil) (by with_unfolding_all rfl)) (e_callTy call_int1 cs_int1 (by exact rfl) B_int (by kernel_rfl) (a_cons (e_ix (ix_all hr.units) os_ix (e_var (pv 4)) (e_bin op_mod os_mod (e_callTy call_int1 cs_int1 (by exact rfl) B_int (by kernel_rfl) (a_cons (e_bin op_addAll os_add (e_bin op_mulAll os_mul (e_var (pv 3)) (e_var (pv 3))) (e_bin op_fdiv os_fdiv (e_var (pv 3)) (e_const pe_int fun _ => .int _))) a_nil)) (e_callB call_len cs_len (by exact rfl) B_len (by kernel_rfl) (a_cons (e_var (pv 4)) a_nil))) (by intro _ _; rfl)) a_nil)) (e_const pe_int fun _ => .int _)))
    (ss_cons (s_set (i := 6) sc__law_next.nd rfl (by first | exact .inl rfl | exact .inr rfl) (e_bin op_mod os_mod (e_callTy call_int1 cs_int1 (by exact rfl) B_int (by kernel_rfl) (a_cons (e_bin op_addAll os_add (e_bin op_addAll os_add (e_bin op_mulAll os_mul (e_var (pv 5)) (e_const pe_int fun _ => .int _)) (e_bin op_mulAll os_mul (e_var (pv 3)) (e_const pe_int fun _ => .int _))) (e_bin op_mulAll os_mul (e_bin op_mulAll os_mul (e_const pe_int fun _ => .int _) (e_var (pv 3))) (e_var (pv 3)))) a_nil)) (e_const pe_int fun _ => .int _)))
    (ss_one (s_ret (e_bin op_mod os_mod (e_callTy call_int1 cs_int1 (by exact rfl) B_int (by kernel_rfl) (a_cons (e_bin op_fdiv os_fdiv (e_bin op_mod os_mod (e_callTy call_int1 cs_int1 (by exact rfl) B_int (by kernel_rfl) (a_cons (e_bin op_addAll os_add (e_bin op_mulAll os_mul (e_var (pv 6)) (e_const pe_int fun _ => .int _)) (e_bin op_mulAll os_mul (e_const pe_int fun _ => .int _) (e_var (pv 3)))) a_nil)) (e_const pe_int fun _ => .int _)) (e_const pe_int fun _ => .int _)) a_nil)) (e_var (pv 1)))))))))))
theorem ok__law_second_right (F : FnP K "_law_second_right" "_law_second_right" s__law_second_right f fd) (Q_ended_by_number_picture : FnK P w K mg base cls "ended_by" 6 g_ended_by ["number", "picture"] [1, 0]) (Q_begins_number_picture : FnK P w K mg base cls "begins" 6 g_begins ["number", "picture"] [1, 0]) (Q_lasting_kind_picture : FnK P w K mg base cls "lasting" 6 g_lasting ["kind", "picture"] [1, 0]) (Q_bars_kind_picture : FnK P w K mg base cls "bars" 6 g_bars ["kind", "picture"] [1, 0]) (Q_check_thing_picture : FnK P w K mg base cls "check" 6 g_check ["thing", "picture"] [1, 0]) (Q_showings_picture : FnK P w K mg base cls "showings" 6 g_showings ["picture"] [0]) : FnOk P w K mg base (L2.CX P w) 10 f fd ["_law_view"] (spG ⟨K, cls, none⟩ g__law_second_right) :=
  fn_H ["_law_view"] ["_law_view"] 1 1 9 m__law_second_right rfl rfl F sc__law_second_right fun cdv A outer s H E a0 hr =>
   (ss_cons (s_if (w_or (t_cmp op_isNotAll (os_is true) (e_callKC Q_begins_number_picture (hr.mono (by decide)) (by exact rfl) pxE (k_cons (e_const pe_int fun _ => .int _) (k_cons (e_var (pv 0)) k_nil))) (e_const pe_bl fun _ => .bl _) (by with_unfolding_all rfl)) (w_or1 (t_cmp (op_neP hr.units) (os_eq true) (e_callKC Q_ended_by_number_picture (hr.mono (by decide)) (by exact rfl) pxE (k_cons (e_const pe_int fun _ => .int _) (k_cons (e_var (pv 0)) k_nil))) (e_const pe_int fun _ => .int _) (by with_unfolding_all rfl)))).pt
    (ss_one (s_ret (e_const pe_bl fun _ => .bl _)))
    ss_nil)
    (ss_cons (s_if (w_or (t_cmp (op_neP hr.units) (os_eq true) (e_callKC Q_bars_kind_picture (hr.mono (by decide)) (by exact rfl) pxE (k_cons (e_const pe_int fun _ => .int _) (k_cons (e_var (pv 0)) k_nil))) (e_tup (d_cons (e_tup (d_cons (e_const pe_int fun _ => .int _) (d_cons (e_const pe_int fun _ => .int _) d_nil))) d_nil)) (by with_unfolding_all rfl)) (w_or1 (t_cmp (op_neP hr.units) (os_eq true) (e_callKC Q_lasting_kind_picture (hr.mono (by decide)) (by exact rfl) pxE (k_cons (e_const pe_int fun _ => .int _) (k_cons (e_var (pv 0)) k_nil))) (e_tup (d_cons (e_const pe_int fun _ => .int _) d_nil)) (by with_unfolding_all rfl)))).pt
    (ss_one (s_ret (e_const pe_bl fun _ => .bl _)))
    ss_nil)
    (ss_one (s_ret (e_cmp (op_eqP hr.units) (os_eq false) (e_callKC Q_check_thing_picture (hr.mono (by decide)) (by exact rfl) pxE (k_cons (e_callKC Q_showings_picture (hr.mono (by decide)) (by exact rfl) pxE (k_cons (e_var (pv 0)) k_nil)) (k_cons (e_var (pv 0)) k_nil))) (e_const pe_int fun _ => .int _) (by with_unfolding_all rfl))))))
theorem ok_lacking (F : FnP K "lacking" "lacking" s_lacking f fd) (B_dict : mg "dict" = none) (C_sides_of : FnC P w K mg base cls "sides_of" 1 g_sides_of) (B_all : mg "all" = none) : FnOk P w K mg base (L2.CX P w) 2 f fd ["pairs"] (spG ⟨K, cls, none⟩ g_lacking) :=
  fn_H ["pairs", "held", "thing", "time", "side"] ["pairs"] 1 5 1 m_lacking rfl rfl F sc_lacking fun cdv A outer s H E a0 hr =>
   (ss_cons (s_set (i := 1) sc_lacking.nd rfl (by first | exact .inl rfl | exact .inr rfl) (e_callTy (call_dictPT hr.units rfl) cs_dictPT (by exact rfl) B_dict (by kernel_rfl) (a_cons (e_var (pv 0)) a_nil)))
    (ss_cons (s_for ownE rfl (i_seqZ rfl (e_var (pv 0))) (g_tup (n := 2) rfl (gs_cons (g_name (i := 2) sc_lacking.nd rfl (by first | exact .inl rfl | exact .inr rfl)) (gs_cons (g_name (i := 3) sc_lacking.nd rfl (by first | exact .inl rfl | exact .inr rfl)) gs_nil)))
    (ss_one (s_if (t_not (t_val (e_callB (cr_all rfl) cs_all (by exact rfl) B_all (by kernel_rfl) (a_cons (e_lc (own := [("side", 4)]) (me := (andM (bin (inF false) (varM 4) (varM 1)) (bin leF (bin ixF (varM 1) (varM 4)) (varM 3)))) rfl sc_lacking.nd (i_seqZ rfl (e_callC C_sides_of (hr.mono (by decide)) (by exact rfl) pxE (a_cons (e_var (pv 2)) a_nil))) (blkOk_of (N := ["pairs", "held", "thing", "time", "side"]) (sc := defScope s_lacking) (by decide +kernel)) (fun _ _ _ _ _ => (g_name (i := 4) sc_lacking.nd rfl (by first | exact .inl rfl | exact .inr rfl))) (fun _ _ _ _ _ => ts_nil) (fun _ _ _ _ _ => (e_and (e_cmp (op_inAll hr.units) (os_in false) (e_var (pv 4)) (e_var (pv 1)) (by with_unfolding_all rfl)) (e_one (e_cmp op_le os_le (e_ix (ix_all hr.units) os_ix (e_var (pv 1)) (e_var (pv 4)) (by intro _ _; rfl)) (e_var (pv 3)) (by with_unfolding_all rfl)))))) a_nil))))
    (ss_one (s_ret (e_var (pv 2))))
    ss_nil)))
    (ss_one (s_ret (e_const pe_non fun _ => .non)))))
theorem ok_sides_of (F : FnP K "sides_of" "sides_of" s_sides_of f fd) (B_len : mg "len" = none) (B_range : mg "range" = none) : FnOk P w K mg base (L2.CX P w) 1 f fd ["thing"] (spG ⟨K, cls, none⟩ g_sides_of) :=
  fn_H ["thing", "place"] ["thing"] 1 2 0 m_sides_of rfl rfl F sc_sides_of fun cdv A outer s H E a0 hr =>
   (ss_cons (s_if (t_cmp (op_eqP hr.units) (os_eq false) (e_callB call_len cs_len (by exact rfl) B_len (by kernel_rfl) (a_cons (e_var (pv 0)) a_nil)) (e_const pe_int fun _ => .int _) (by with_unfolding_all rfl))
    (ss_one (s_ret (e_lst d_nil)))
    ss_nil)
    (ss_one (s_ret (e_lc (own := [("place", 1)]) (me := (bin addF (sliceM (varM 0) noPart (partM (varM 1))) (sliceM (varM 0) (partM (bin addF (varM 1) (constM (.int 1)))) noPart))) rfl sc_sides_of.nd (i_range1 (by exact rfl) B_range (a_cons (e_callB call_len cs_len (by exact rfl) B_len (by kernel_rfl) (a_cons (e_var (pv 0)) a_nil)) a_nil)) (blkOk_of (N := ["thing", "place"]) (sc := defScope s_sides_of) (by decide +kernel)) (fun _ _ _ _ _ => (g_name (i := 1) sc_sides_of.nd rfl (by first | exact .inl rfl | exact .inr rfl))) (fun _ _ _ _ _ => ts_nil) (fun _ _ _ _ _ => (e_bin op_addAll os_add (e_slice rfl (e_var (pv 0)) o_none (o_some (e_var (pv 1)))) (e_slice rfl (e_var (pv 0)) (o_some (e_bin op_addAll os_add (e_var (pv 1)) (e_const pe_int fun _ => .int _))) o_none)))))))
theorem ok_basis_of (F : FnP K "basis_of" "basis_of" s_basis_of f fd) (C_edges : FnC P w K mg base cls "edges" 3 g_edges) (M_Basis : MkC P w K mg base cls "Basis" 1 g_Basis___init__) (T_Basis_take : MetC P w K mg base cls "Basis" "take" 3 g_Basis_take) : FnOk P w K mg base (L2.CX P w) 4 f fd ["picture", "numbers"] (spG ⟨K, cls, none⟩ g_basis_of) :=
  fn_H ["picture", "numbers", "alone", "found", "number"] ["picture", "numbers"] 2 5 3 m_basis_of rfl rfl F sc_basis_of fun cdv A outer s H E a0 hr =>
   (ss_cons (s_par2 (i := 2) (j := 3) rfl sc_basis_of.nd rfl rfl (by decide) rfl rfl (e_callC C_edges (hr.mono (by decide)) (by exact rfl) pxE (a_cons (e_var (pv 0)) a_nil)) (e_make0C M_Basis (hr.mono (by decide)) (by exact rfl) pxE) (by with_unfolding_all rfl) (by with_unfolding_all rfl))
    (ss_cons (s_for ownE rfl (i_seqZ rfl (e_var (pv 1))) (g_name (i := 4) sc_basis_of.nd rfl (by first | exact .inl rfl | exact .inr rfl))
    (ss_one (s_expr (e_methC T_Basis_take (e_var (pv 3)) (hr.mono (by decide)) pxE (a_cons (e_ix (ix_all hr.units) os_ix (e_var (pv 2)) (e_var (pv 4)) (by intro _ _; rfl)) (a_cons (e_bin op_shl os_shl (e_const pe_int fun _ => .int _) (e_var (pv 4))) a_nil))))))
    (ss_one (s_ret (e_var (pv 3))))))
theorem ok_need_ring (F : FnP K "need_ring" "need_ring" s_need_ring f fd) (C_need_chain : FnC P w K mg base cls "need_chain" 5 g_need_chain) (C_edge_of : FnC P w K mg base cls "edge_of" 4 g_edge_of) (C_figures_of : FnC P w K mg base cls "figures_of" 2 g_figures_of) : FnOk P w K mg base (L2.CX P w) 6 f fd ["picture", "chain"] (spG ⟨K, cls, none⟩ g_need_ring) :=
  fn_H ["picture", "chain"] ["picture", "chain"] 2 2 5 m_need_ring rfl rfl F sc_need_ring fun cdv A outer s H E a0 hr =>
   (ss_cons (s_expr (e_callC C_need_chain (hr.mono (by decide)) (by exact rfl) pxE (a_cons (e_var (pv 0)) (a_cons (e_var (pv 1)) a_nil))))
    (ss_one (s_if (t_cmp (op_neP hr.units) (os_eq true) (e_callC C_edge_of (hr.mono (by decide)) (by exact rfl) pxE (a_cons (e_var (pv 0)) (a_cons (e_callC C_figures_of (hr.mono (by decide)) (by exact rfl) pxE (a_cons (e_var (pv 0)) (a_cons (e_var (pv 1)) a_nil))) a_nil))) (e_const pe_int fun _ => .int _) (by with_unfolding_all rfl))
    (ss_one s_never)
    ss_nil)))
theorem ok_Picture_pairs (F : FnP K "pairs" "Picture.pairs" s_Picture_pairs f fd) (A_Picture_times : AttrOk ⟨K, cls, none⟩ "Picture" "times") (A_Picture_row : AttrOk ⟨K, cls, none⟩ "Picture" "row") (B_list : mg "list" = none) (B_zip : mg "zip" = none) : FnOk P w K mg base (L2.CX P w) 1 f fd ["self"] (spG ⟨K, cls, none⟩ g_Picture_pairs) :=
  fn_H ["self"] ["self"] 1 1 0 m_Picture_pairs rfl rfl F sc_Picture_pairs fun cdv A outer s H E a0 hr =>
   (ss_one (s_ret (e_listZip rfl rfl (by exact rfl) (by exact rfl) B_list B_zip (a_fz (d_cons (e_fld (cs := ["Picture"]) rfl (attr1 A_Picture_row) (e_var (pv 0)) rfl) (d_cons (e_fld (cs := ["Picture"]) rfl (attr1 A_Picture_times) (e_var (pv 0)) rfl) d_nil))))))
theorem ok_is_among (F : FnP K "is_among" "is_among" s_is_among f fd) (C_is_number : FnC P w K mg base cls "is_number" 1 g_is_number) : FnOk P w K mg base (L2.CX P w) 2 f fd ["thing", "least", "most"] (spG ⟨K, cls, none⟩ g_is_among) :=
  fn_H ["thing", "least", "most"] ["thing", "least", "most"] 3 3 1 m_is_among rfl rfl F sc_is_among fun cdv A outer s H E a0 hr =>
   (ss_one (s_ret (e_and (e_callC C_is_number (hr.mono (by decide)) (by exact rfl) pxE (a_cons (e_var (pv 0)) a_nil)) (e_one (e_chain op_le op_le os_le os_le (e_var (pv 1)) (e_var (pv 0)) (e_var (pv 2)) (by with_unfolding_all rfl))))))
theorem ok_Pairing_enders (F : FnP K "enders" "Pairing.enders" s_Pairing_enders f fd) (A_Pairing_ends : AttrOk ⟨K, cls, none⟩ "Pairing" "ends") (B_list : mg "list" = none) : FnOk P w K mg base (L2.CX P w) 1 f fd ["self"] (spG ⟨K, cls, none⟩ g_Pairing_enders) :=
  fn_H ["self"] ["self"] 1 1 0 m_Pairing_enders rfl rfl F sc_Pairing_enders fun cdv A outer s H E a0 hr =>
   (ss_one (s_ret (e_listValues rfl (e_fld (cs := ["Pairing"]) rfl (attr1 A_Pairing_ends) (e_var (pv 0)) rfl) (by exact rfl) B_list)))
end
end DL
end

section
set_option Elab.async false
set_option linter.all false
set_option maxRecDepth 100000
set_option autoImplicit false
set_option maxHeartbeats 4000000
namespace DL
open PySem PySem.Spec PyProof.Rows L2
section
variable {P : Program} {w : World} {K : PySem.W.Frag} {mg : Str → Option Value} {base : Heap} {cls : Str → Addr} {f : Addr} {fd : FuncData}
theorem ok_check (F : FnP K "check" "check" s_check f fd) (B_len : mg "len" = none) (A_Picture_row : AttrOk ⟨K, cls, none⟩ "Picture" "row") (B_isinstance : mg "isinstance" = none) (B_tuple : mg "tuple" = none) (B_enumerate : mg "enumerate" = none) (C_is_last : FnC P w K mg base cls "is_last" 5 g_is_last) (C_edge_of : FnC P w K mg base cls "edge_of" 4 g_edge_of) (C_figures_of : FnC P w K mg base cls "figures_of" 2 g_figures_of) (C_last_of : FnC P w K mg base cls "last_of" 1 g_last_of) : FnOk P w K mg base (L2.CX P w) 6 f fd ["picture", "thing"] (spG ⟨K, cls, none⟩ g_check) :=
  fn_H ["picture", "thing", "met", "number", "chain", "left"] ["picture", "thing"] 2 6 5 m_check rfl rfl F sc_check fun cdv A outer s H E a0 hr =>
   (ss_cons (s_if (w_or (t_not (t_val (e_isi .tup rfl rfl (by exact rfl) B_isinstance (e_var (pv 1)) (pe_tyName (by exact rfl) B_tuple (by kernel_rfl))))) (w_or1 (t_cmp (op_neP hr.units) (os_eq true) (e_callB call_len cs_len (by exact rfl) B_len (by kernel_rfl) (a_cons (e_var (pv 1)) a_nil)) (e_callB call_len cs_len (by exact rfl) B_len (by kernel_rfl) (a_cons (e_fld (cs := ["Picture"]) rfl (attr1 A_Picture_row) (e_var (pv 0)) rfl) a_nil)) (by with_unfolding_all rfl)))).pt
    (ss_one s_never)
    ss_nil)
    (ss_cons (s_set (i := 2) sc_check.nd rfl (by first | exact .inl rfl | exact .inr rfl) (e_lst d_nil))
    (ss_cons (s_for ownE rfl (i_enum rfl (by exact rfl) B_enumerate (a_fz (d_cons (e_var (pv 1)) d_nil))) (g_tup (n := 2) rfl (gs_cons (g_name (i := 3) sc_check.nd rfl (by first | exact .inl rfl | exact .inr rfl)) (gs_cons (g_name (i := 4) sc_check.nd rfl (by first | exact .inl rfl | exact .inr rfl)) gs_nil)))
    (ss_cons (s_if (t_not (t_val (e_callC C_is_last (hr.mono (by decide)) (by exact rfl) pxE (a_cons (e_var (pv 0)) (a_cons (e_var (pv 4)) (a_cons (e_var (pv 3)) a_nil))))))
    (ss_one s_never)
    ss_nil)
    (ss_cons (s_set (i := 5) sc_check.nd rfl (by first | exact .inl rfl | exact .inr rfl) (e_callC C_edge_of (hr.mono (by decide)) (by exact rfl) pxE (a_cons (e_var (pv 0)) (a_cons (e_callC C_figures_of (hr.mono (by decide)) (by exact rfl) pxE (a_cons (e_var (pv 0)) (a_cons (e_var (pv 4)) a_nil))) a_nil))))
    (ss_one (s_if (t_cmp (op_neP hr.units) (os_eq true) (e_var (pv 5)) (e_const pe_int fun _ => .int _) (by with_unfolding_all rfl))
    (ss_cons (s_if (t_cmp (op_inAll hr.units) (os_in false) (e_callC C_last_of (hr.mono (by decide)) (by exact rfl) pxE (a_cons (e_var (pv 5)) a_nil)) (e_var (pv 2)) (by with_unfolding_all rfl))
    (ss_one s_never)
    ss_nil)
    (ss_one (s_expr (e_append (pv 2) (e_callC C_last_of (hr.mono (by decide)) (by exact rfl) pxE (a_cons (e_var (pv 5)) a_nil))))))
    ss_nil)))))
    (ss_one (s_ret (e_bin op_sub os_sub (e_callB call_len cs_len (by exact rfl) B_len (by kernel_rfl) (a_cons (e_var (pv 1)) a_nil)) (e_callB call_len cs_len (by exact rfl) B_len (by kernel_rfl) (a_cons (e_var (pv 2)) a_nil))))))))
theorem ok_filling (F : FnP K "filling" "filling" s_filling f fd) (C_need_ring : FnC P w K mg base cls "need_ring" 6 g_need_ring) (C_need_time : FnC P w K mg base cls "need_time" 4 g_need_time) (C_basis_of : FnC P w K mg base cls "basis_of" 4 g_basis_of) (C_numbers_there : FnC P w K mg base cls "numbers_there" 1 g_numbers_there) (B_len : mg "len" = none) (T_Basis_reduced : MetC P w K mg base cls "Basis" "reduced" 2 g_Basis_reduced) (C_figures_of : FnC P w K mg base cls "figures_of" 2 g_figures_of) (C_chain_of : FnC P w K mg base cls "chain_of" 1 g_chain_of) : FnOk P w K mg base (L2.CX P w) 7 f fd ["picture", "chain", "time"] (spG ⟨K, cls, none⟩ g_filling) :=
  fn_H ["picture", "chain", "time", "basis", "left", "found"] ["picture", "chain", "time"] 3 6 6 m_filling rfl rfl F sc_filling fun cdv A outer s H E a0 hr =>
   (ss_cons (s_expr (e_callC C_need_ring (hr.mono (by decide)) (by exact rfl) pxE (a_cons (e_var (pv 0)) (a_cons (e_var (pv 1)) a_nil))))
    (ss_cons (s_expr (e_callC C_need_time (hr.mono (by decide)) (by exact rfl) pxE (a_cons (e_var (pv 2)) a_nil)))
    (ss_cons (s_if (t_cmp (op_eqP hr.units) (os_eq false) (e_var (pv 1)) (e_tup d_nil) (by with_unfolding_all rfl))
    (ss_one (s_ret (e_tup d_nil)))
    ss_nil)
    (ss_cons (s_set (i := 3) sc_filling.nd rfl (by first | exact .inl rfl | exact .inr rfl) (e_callC C_basis_of (hr.mono (by decide)) (by exact rfl) pxE (a_cons (e_var (pv 0)) (a_cons (e_callC C_numbers_there (hr.mono (by decide)) (by exact rfl) pxE (a_cons (e_var (pv 0)) (a_cons (e_callB call_len cs_len (by exact rfl) B_len (by kernel_rfl) (a_cons (e_ix (ix_all hr.units) os_ix (e_var (pv 1)) (e_const pe_int fun _ => .int _) (by intro _ _; rfl)) a_nil)) (a_cons (e_var (pv 2)) a_nil)))) a_nil))))
    (ss_cons (s_asg (e_methC T_Basis_reduced (e_var (pv 3)) (hr.mono (by decide)) pxE (a_cons (e_callC C_figures_of (hr.mono (by decide)) (by exact rfl) pxE (a_cons (e_var (pv 0)) (a_cons (e_var (pv 1)) a_nil))) (a_cons (e_const pe_int fun _ => .int _) a_nil))) (g_tup (n := 2) rfl (gs_cons (g_name (i := 4) sc_filling.nd rfl (by first | exact .inl rfl | exact .inr rfl)) (gs_cons (g_name (i := 5) sc_filling.nd rfl (by first | exact .inl rfl | exact .inr rfl)) gs_nil))))
    (ss_one (s_ret (e_if (t_cmp (op_eqP hr.units) (os_eq false) (e_var (pv 4)) (e_const pe_int fun _ => .int _) (by with_unfolding_all rfl)) (e_callC C_chain_of (hr.mono (by decide)) (by exact rfl) pxE (a_cons (e_var (pv 0)) (a_cons (e_var (pv 5)) a_nil))) (e_const pe_non fun _ => .non)))))))))
theorem ok_is_thing (F : FnP K "is_thing" "is_thing" s_is_thing f fd) (B_len : mg "len" = none) (K_MOST_CORNERS : GC mg "MOST_CORNERS" (.int 3)) (B_isinstance : mg "isinstance" = none) (B_tuple : mg "tuple" = none) (C_are_rising : FnC P w K mg base cls "are_rising" 1 g_are_rising) (C_is_word : FnC P w K mg base cls "is_word" 1 g_is_word) (B_all : mg "all" = none) : FnOk P w K mg base (L2.CX P w) 2 f fd ["thing"] (spG ⟨K, cls, none⟩ g_is_thing) :=
  fn_H ["thing", "one"] ["thing"] 1 2 1 m_is_thing rfl rfl F sc_is_thing fun cdv A outer s H E a0 hr =>
   (ss_cons (s_if (w_or (t_not (t_val (e_isi .tup rfl rfl (by exact rfl) B_isinstance (e_var (pv 0)) (pe_tyName (by exact rfl) B_tuple (by kernel_rfl))))) (w_or1 (t_not (t_chain op_le op_le os_le os_le (e_const pe_int fun _ => .int _) (e_callB call_len cs_len (by exact rfl) B_len (by kernel_rfl) (a_cons (e_var (pv 0)) a_nil)) (e_const (pe_gcD (by exact rfl) K_MOST_CORNERS) fun _ => .int _) (by with_unfolding_all rfl))))).pt
    (ss_one (s_ret (e_const pe_bl fun _ => .bl _)))
    ss_nil)
    (ss_one (s_ret (e_and (e_callB (cr_all rfl) cs_all (by exact rfl) B_all (by kernel_rfl) (a_cons (e_lc (own := [("one", 1)]) (me := (callM (callG g_is_word) (consA (varM 1) nilA))) rfl sc_is_thing.nd (i_seqZ rfl (e_var (pv 0))) (blkOk_of (N := ["thing", "one"]) (sc := defScope s_is_thing) (by decide +kernel)) (fun _ _ _ _ _ => (g_name (i := 1) sc_is_thing.nd rfl (by first | exact .inl rfl | exact .inr rfl))) (fun _ _ _ _ _ => ts_nil) (fun _ _ _ _ _ => (e_callC C_is_word (hr.mono (by decide)) (by exact rfl) passL (a_cons (e_var (pv 1)) a_nil)))) a_nil)) (e_one (e_callC C_are_rising (hr.mono (by decide)) (by exact rfl) pxE (a_cons (e_var (pv 0)) a_nil)))))))
theorem ok_edge_of (F : FnP K "edge_of" "edge_of" s_edge_of f fd) (B_enumerate : mg "enumerate" = none) (C_edges : FnC P w K mg base cls "edges" 3 g_edges) : FnOk P w K mg base (L2.CX P w) 4 f fd ["picture", "figures"] (spG ⟨K, cls, none⟩ g_edge_of) :=
  fn_H ["picture", "figures", "found", "number", "one"] ["picture", "figures"] 2 5 3 m_edge_of rfl rfl F sc_edge_of fun cdv A outer s H E a0 hr =>
   (ss_cons (s_set (i := 2) sc_edge_of.nd rfl (by first | exact .inl rfl | exact .inr rfl) (e_const pe_int fun _ => .int _))
    (ss_cons (s_for ownE rfl (i_enum rfl (by exact rfl) B_enumerate (a_fz (d_cons (e_callC C_edges (hr.mono (by decide)) (by exact rfl) pxE (a_cons (e_var (pv 0)) a_nil)) d_nil))) (g_tup (n := 2) rfl (gs_cons (g_name (i := 3) sc_edge_of.nd rfl (by first | exact .inl rfl | exact .inr rfl)) (gs_cons (g_name (i := 4) sc_edge_of.nd rfl (by first | exact .inl rfl | exact .inr rfl)) gs_nil)))
    (ss_one (s_if (t_cmp (op_eqP hr.units) (os_eq false) (e_bin op_and os_and (e_bin op_shr os_shr (e_var (pv 1)) (e_var (pv 3))) (e_const pe_int fun _ => .int _)) (e_const pe_int fun _ => .int _) (by with_unfolding_all rfl))
    (ss_one (s_set (i := 2) sc_edge_of.nd rfl (by first | exact .inl rfl | exact .inr rfl) (e_bin op_xor os_xor (e_var (pv 2)) (e_var (pv 4)))))
    ss_nil)))
    (ss_one (s_ret (e_var (pv 2))))))
theorem ok_is_timed (F : FnP K "is_timed" "is_timed" s_is_timed f fd) (C_is_time : FnC P w K mg base cls "is_time" 3 g_is_time) (C_is_thing : FnC P w K mg base cls "is_thing" 2 g_is_thing) (B_len : mg "len" = none) (B_isinstance : mg "isinstance" = none) (B_tuple : mg "tuple" = none) : FnOk P w K mg base (L2.CX P w) 4 f fd ["thing"] (spG ⟨K, cls, none⟩ g_is_timed) :=
  fn_H ["thing"] ["thing"] 1 1 3 m_is_timed rfl rfl F sc_is_timed fun cdv A outer s H E a0 hr =>
   (ss_one (s_ret (e_and (e_isi .tup rfl rfl (by exact rfl) B_isinstance (e_var (pv 0)) (pe_tyName (by exact rfl) B_tuple (by kernel_rfl))) (e_and (e_cmp (op_eqP hr.units) (os_eq false) (e_callB call_len cs_len (by exact rfl) B_len (by kernel_rfl) (a_cons (e_var (pv 0)) a_nil)) (e_const pe_int fun _ => .int _) (by with_unfolding_all rfl)) (e_and (e_callC C_is_thing (hr.mono (by decide)) (by exact rfl) pxE (a_cons (e_ix (ix_all hr.units) os_ix (e_var (pv 0)) (e_const pe_int fun _ => .int _) (by intro _ _; rfl)) a_nil)) (e_one (e_callC C_is_time (hr.mono (by decide)) (by exact rfl) pxE (a_cons (e_ix (ix_all hr.units) os_ix (e_var (pv 0)) (e_const pe_int fun _ => .int _) (by intro _ _; rfl)) a_nil))))))))
theorem ok_edge (F : FnP K "edge" "edge" s_edge f fd) (C_need_chain : FnC P w K mg base cls "need_chain" 5 g_need_chain) (C_chain_of : FnC P w K mg base cls "chain_of" 1 g_chain_of) (C_edge_of : FnC P w K mg base cls "edge_of" 4 g_edge_of) (C_figures_of : FnC P w K mg base cls "figures_of" 2 g_figures_of) : FnOk P w K mg base (L2.CX P w) 6 f fd ["picture", "chain"] (spG ⟨K, cls, none⟩ g_edge) :=
  fn_H ["picture", "chain"] ["picture", "chain"] 2 2 5 m_edge rfl rfl F sc_edge fun cdv A outer s H E a0 hr =>
   (ss_cons (s_expr (e_callC C_need_chain (hr.mono (by decide)) (by exact rfl) pxE (a_cons (e_var (pv 0)) (a_cons (e_var (pv 1)) a_nil))))
    (ss_one (s_ret (e_callC C_chain_of (hr.mono (by decide)) (by exact rfl) pxE (a_cons (e_var (pv 0)) (a_cons (e_callC C_edge_of (hr.mono (by decide)) (by exact rfl) pxE (a_cons (e_var (pv 0)) (a_cons (e_callC C_figures_of (hr.mono (by decide)) (by exact rfl) pxE (a_cons (e_var (pv 0)) (a_cons (e_var (pv 1)) a_nil))) a_nil))) a_nil))))))
theorem ok_in_row (F : FnP K "in_row" "in_row" s_in_row f fd) (B_len : mg "len" = none) : FnOk P w K mg base (L2.CX P w) 1 f fd ["item"] (spG ⟨K, cls, none⟩ g_in_row) :=
  fn_H ["item", "thing", "time"] ["item"] 1 3 0 m_in_row rfl rfl F sc_in_row fun cdv A outer s H E a0 hr =>
   (ss_cons (s_asg (e_var (pv 0)) (g_tup (n := 2) rfl (gs_cons (g_name (i := 1) sc_in_row.nd rfl (by first | exact .inl rfl | exact .inr rfl)) (gs_cons (g_name (i := 2) sc_in_row.nd rfl (by first | exact .inl rfl | exact .inr rfl)) gs_nil))))
    (ss_one (s_ret (e_tup (d_cons (e_var (pv 2)) (d_cons (e_callB call_len cs_len (by exact rfl) B_len (by kernel_rfl) (a_cons (e_var (pv 1)) a_nil)) (d_cons (e_var (pv 1)) d_nil)))))))
theorem ok_is_time (F : FnP K "is_time" "is_time" s_is_time f fd) (C_is_among : FnC P w K mg base cls "is_among" 2 g_is_among) (K_MOST_TIME : GC mg "MOST_TIME" (.int 40)) : FnOk P w K mg base (L2.CX P w) 3 f fd ["thing"] (spG ⟨K, cls, none⟩ g_is_time) :=
  fn_H ["thing"] ["thing"] 1 1 2 m_is_time rfl rfl F sc_is_time fun cdv A outer s H E a0 hr =>
   (ss_one (s_ret (e_callC C_is_among (hr.mono (by decide)) (by exact rfl) pxE (a_cons (e_var (pv 0)) (a_cons (e_const pe_int fun _ => .int _) (a_cons (e_const (pe_gcD (by exact rfl) K_MOST_TIME) fun _ => .int _) a_nil))))))
theorem ok_number_in (F : FnP K "number_in" "number_in" s_number_in f fd) (A_Picture_row : AttrOk ⟨K, cls, none⟩ "Picture" "row") : FnOk P w K mg base (L2.CX P w) 1 f fd ["picture", "thing"] (spG ⟨K, cls, none⟩ g_number_in) :=
  fn_H ["picture", "thing"] ["picture", "thing"] 2 2 0 m_number_in rfl rfl F sc_number_in fun cdv A outer s H E a0 hr =>
   (ss_one (s_ret (e_index hr.units rfl (e_fldK (cs := ["Picture"]) rfl (attr1 A_Picture_row) (e_var (pv 0)) rfl) (e_var (pv 1)))))
end
end DL
end

section
set_option Elab.async false
set_option linter.all false
set_option maxRecDepth 100000
set_option autoImplicit false
set_option maxHeartbeats 4000000
set_option synthInstance.maxHeartbeats 400000
set_option synthInstance.maxSize 4000
namespace DL
open PySem PySem.Spec PyProof.Rows L2
def cnm : List Str := ["a", "b"]
class Wd (φ : Str → Str) : Prop where
  w : ∀ c ∈ cnm, g_is_word [.val (.str (φ c))] = .ok (.f (.bool true)) [.val (.str (φ c))]
variable {φ : Str → Str} [Nm φ] [Wd φ]
def gT_is_word : List Slot → R Val := fun As => match As with
  | [.one (.fz (.str s))] => if s ∈ cnm then .ok (.f (.bool true)) [.val (.str s)] else .stuck
  | _ => .stuck
instance is_word_s [W : Wd φ] : Sg φ gT_is_word g_is_word := ⟨fun As => by
  unfold gT_is_word
  split
  · split
    · rename_i s h
      exact .of (W.w s h)
    · exact .stuck
  · exact .stuck⟩
def mT_is_number : Gam → RS :=
  (retM (andM (isTyM .int (varM 0)) (notM (isTyM .bl (varM 0)))))
def gT_is_number : List Slot → R Val := gOf 1 1 mT_is_number
instance m_is_number_s [Nm φ] [Wd φ] : Ss φ mT_is_number m_is_number := by
  unfold mT_is_number m_is_number
  infer_instance
instance g_is_number_s [Nm φ] [Wd φ] : Sg φ gT_is_number g_is_number := by
  unfold gT_is_number g_is_number
  infer_instance
def mT_is_among : Gam → RS :=
  (retM (andM (callM (callG gT_is_number) (consA (varM 0) nilA)) (chainM leF leF (varM 1) (varM 0) (varM 2))))
def gT_is_among : List Slot → R Val := gOf 3 3 mT_is_among
instance m_is_among_s [Nm φ] [Wd φ] : Ss φ mT_is_among m_is_among := by
  unfold mT_is_among m_is_among
  infer_instance
instance g_is_among_s [Nm φ] [Wd φ] : Sg φ gT_is_among g_is_among := by
  unfold gT_is_among g_is_among
  infer_instance
def mT_are_rising : Gam → RS :=
  (retM (callM allF (consA (compM (zipM (fzA (consD (varM 0) (consD (sliceT (varM 0) (partM (constM (.int 1))) noPart) nilD)))) (tgT 2 (tgCons (tgN 1) (tgCons (tgN 2) tgNil))) yesM (fzL (bin ltF (varM 1) (varM 2))) ([1] ++ ([2] ++ [])) [1, 2]) nilA)))
def gT_are_rising : List Slot → R Val := gOf 1 3 mT_are_rising
instance m_are_rising_s [Nm φ] [Wd φ] : Ss φ mT_are_rising m_are_rising := by
  unfold mT_are_rising m_are_rising
  infer_instance
instance g_are_rising_s [Nm φ] [Wd φ] : Sg φ gT_are_rising g_are_rising := by
  unfold gT_are_rising g_are_rising
  infer_instance
def mT_is_thing : Gam → RS :=
  (seqM (ifS (orT (notT (testM (isTyM .tup (varM 0)))) (notT (testM (chainM leF leF (constM (.int 1)) (callM lenT (consA (varM 0) nilA)) (constM (.int 3))))))
    (retM (constM (.bool false)))
    nextM)
    (retM (andM (callM allF (consA (compM (srcZT (varM 0)) (tgN 1) yesM (fzL (callM (callG gT_is_word) (consA (varM 1) nilA))) [1] [1]) nilA)) (callM (callG gT_are_rising) (consA (varM 0) nilA)))))
def gT_is_thing : List Slot → R Val := gOf 1 2 mT_is_thing
instance m_is_thing_s [Nm φ] [Wd φ] : Ss φ mT_is_thing m_is_thing := by
  unfold mT_is_thing m_is_thing
  infer_instance
instance g_is_thing_s [Nm φ] [Wd φ] : Sg φ gT_is_thing g_is_thing := by
  unfold gT_is_thing g_is_thing
  infer_instance
def mT_is_time : Gam → RS :=
  (retM (callM (callG gT_is_among) (consA (varM 0) (consA (constM (.int 0)) (consA (constM (.int 40)) nilA)))))
def gT_is_time : List Slot → R Val := gOf 1 1 mT_is_time
instance m_is_time_s [Nm φ] [Wd φ] : Ss φ mT_is_time m_is_time := by
  unfold mT_is_time m_is_time
  infer_instance
instance g_is_time_s [Nm φ] [Wd φ] : Sg φ gT_is_time g_is_time := by
  unfold gT_is_time g_is_time
  infer_instance
def mT_need_time : Gam → RS :=
  (ifS (notT (testM (callM (callG gT_is_time) (consA (varM 0) nilA))))
    (fun _ => .stuck)
    nextM)
def gT_need_time : List Slot → R Val := gOf 1 1 mT_need_time
instance m_need_time_s [Nm φ] [Wd φ] : Ss φ mT_need_time m_need_time := by
  unfold mT_need_time m_need_time
  infer_instance
instance g_need_time_s [Nm φ] [Wd φ] : Sg φ gT_need_time g_need_time := by
  unfold gT_need_time g_need_time
  infer_instance
def mT_sides_of : Gam → RS :=
  (seqM (ifS (testM (bin (eqF false) (callM lenT (consA (varM 0) nilA)) (constM (.int 1))))
    (retM (lstM nilD))
    nextM)
    (retM (compM (rg1M (consA (callM lenT (consA (varM 0) nilA)) nilA)) (tgN 1) yesM (fzL (bin addT (sliceT (varM 0) noPart (partM (varM 1))) (sliceT (varM 0) (partM (bin addT (varM 1) (constM (.int 1)))) noPart))) [1] [1])))
def gT_sides_of : List Slot → R Val := gOf 1 2 mT_sides_of
instance m_sides_of_s [Nm φ] [Wd φ] : Ss φ mT_sides_of m_sides_of := by
  unfold mT_sides_of m_sides_of
  infer_instance
instance g_sides_of_s [Nm φ] [Wd φ] : Sg φ gT_sides_of g_sides_of := by
  unfold gT_sides_of g_sides_of
  infer_instance
def mT_is_timed : Gam → RS :=
  (retM (andM (isTyM .tup (varM 0)) (andM (bin (eqF false) (callM lenT (consA (varM 0) nilA)) (constM (.int 2))) (andM (callM (callG gT_is_thing) (consA (bin ixT (varM 0) (constM (.int 0))) nilA)) (callM (callG gT_is_time) (consA (bin ixT (varM 0) (constM (.int 1))) nilA))))))
def gT_is_timed : List Slot → R Val := gOf 1 1 mT_is_timed
instance m_is_timed_s [Nm φ] [Wd φ] : Ss φ mT_is_timed m_is_timed := by
  unfold mT_is_timed m_is_timed
  infer_instance
instance g_is_timed_s [Nm φ] [Wd φ] : Sg φ gT_is_timed g_is_timed := by
  unfold gT_is_timed g_is_timed
  infer_instance
def mT_lacking : Gam → RS :=
  (seqM (setM 1 (callM dictPTF (consA (varM 0) nilA)))
    (seqM (forM (srcZT (varM 0)) (tgT 2 (tgCons (tgN 2) (tgCons (tgN 3) tgNil)))
    (ifS (notT (testM (callM allF (consA (compM (srcZT (callM (callG gT_sides_of) (consA (varM 2) nilA))) (tgN 4) yesM (fzL (andM (bin (inT false) (varM 4) (varM 1)) (bin leF (bin ixT (varM 1) (varM 4)) (varM 3)))) [4] [4]) nilA))))
    (retM (varM 2))
    nextM))
    (retM (constM .none))))
def gT_lacking : List Slot → R Val := gOf 1 5 mT_lacking
instance m_lacking_s [Nm φ] [Wd φ] : Ss φ mT_lacking m_lacking := by
  unfold mT_lacking m_lacking
  infer_instance
instance g_lacking_s [Nm φ] [Wd φ] : Sg φ gT_lacking g_lacking := by
  unfold gT_lacking g_lacking
  infer_instance
def mT_need_items : Gam → RS :=
  (seqM (setM 1 (lstM nilD))
    (forM (enumM (fzA (consD (varM 0) nilD))) (tgT 2 (tgCons (tgN 2) (tgCons (tgN 3) tgNil)))
    (seqM (ifS (orT (notT (testM (callM (callG gT_is_timed) (consA (varM 3) nilA)))) (testM (bin (inT false) (bin ixT (varM 3) (constM (.int 0))) (varM 1))))
    (fun _ => .stuck)
    nextM)
    (exprM (appendM 1 (bin ixT (varM 3) (constM (.int 0))))))))
def gT_need_items : List Slot → R Val := gOf 1 4 mT_need_items
instance m_need_items_s [Nm φ] [Wd φ] : Ss φ mT_need_items m_need_items := by
  unfold mT_need_items m_need_items
  infer_instance
instance g_need_items_s [Nm φ] [Wd φ] : Sg φ gT_need_items g_need_items := by
  unfold gT_need_items g_need_items
  infer_instance
def mT_in_row : Gam → RS :=
  (seqM (asgM (varM 0) (tgT 2 (tgCons (tgN 1) (tgCons (tgN 2) tgNil))))
    (retM (tupM (consD (varM 2) (consD (callM lenT (consA (varM 1) nilA)) (consD (varM 1) nilD))))))
def gT_in_row : List Slot → R Val := gOf 1 3 mT_in_row
instance m_in_row_s [Nm φ] [Wd φ] : Ss φ mT_in_row m_in_row := by
  unfold mT_in_row m_in_row
  infer_instance
instance g_in_row_s [Nm φ] [Wd φ] : Sg φ gT_in_row g_in_row := by
  unfold gT_in_row g_in_row
  infer_instance
def mT_need_kind : Gam → RS :=
  (ifS (notT (testM (callM (callG gT_is_among) (consA (varM 0) (consA (constM (.int 0)) (consA (constM (.int 2)) nilA))))))
    (fun _ => .stuck)
    nextM)
def gT_need_kind : List Slot → R Val := gOf 1 1 mT_need_kind
instance m_need_kind_s [Nm φ] [Wd φ] : Ss φ mT_need_kind m_need_kind := by
  unfold mT_need_kind m_need_kind
  infer_instance
instance g_need_kind_s [Nm φ] [Wd φ] : Sg φ gT_need_kind g_need_kind := by
  unfold gT_need_kind g_need_kind
  infer_instance
def mT_Picture_has : Gam → RS :=
  (retM (andM (callM (callG gT_is_thing) (consA (varM 1) nilA)) (bin (inT false) (varM 1) (fldM ["Picture"] "row" (varM 0)))))
def gT_Picture_has : List Slot → R Val := gOf 2 2 mT_Picture_has
instance m_Picture_has_s [Nm φ] [Wd φ] : Ss φ mT_Picture_has m_Picture_has := by
  unfold mT_Picture_has m_Picture_has
  infer_instance
instance g_Picture_has_s [Nm φ] [Wd φ] : Sg φ gT_Picture_has g_Picture_has := by
  unfold gT_Picture_has g_Picture_has
  infer_instance
def mT_is_chain : Gam → RS :=
  (seqM (ifS (orT (notT (testM (isTyM .tup (varM 1)))) (notT (testM (callM allF (consA (compM (srcZT (varM 1)) (tgN 2) yesM (fzL (methM "Picture" "has" gT_Picture_has (varM 0) (consA (varM 2) nilA))) [2] [2]) nilA)))))
    (retM (constM (.bool false)))
    nextM)
    (retM (andM (callM (callG gT_are_rising) (consA (varM 1) nilA)) (callM allF (consA (compM (srcZT (varM 1)) (tgN 2) yesM (fzL (bin (eqF false) (callM lenT (consA (varM 2) nilA)) (callM lenT (consA (bin ixT (varM 1) (constM (.int 0))) nilA)))) [2] [2]) nilA)))))
def gT_is_chain : List Slot → R Val := gOf 2 3 mT_is_chain
instance m_is_chain_s [Nm φ] [Wd φ] : Ss φ mT_is_chain m_is_chain := by
  unfold mT_is_chain m_is_chain
  infer_instance
instance g_is_chain_s [Nm φ] [Wd φ] : Sg φ gT_is_chain g_is_chain := by
  unfold gT_is_chain g_is_chain
  infer_instance
def mT_need_chain : Gam → RS :=
  (ifS (notT (testM (callM (callG gT_is_chain) (consA (varM 0) (consA (varM 1) nilA)))))
    (fun _ => .stuck)
    nextM)
def gT_need_chain : List Slot → R Val := gOf 2 2 mT_need_chain
instance m_need_chain_s [Nm φ] [Wd φ] : Ss φ mT_need_chain m_need_chain := by
  unfold mT_need_chain m_need_chain
  infer_instance
instance g_need_chain_s [Nm φ] [Wd φ] : Sg φ gT_need_chain g_need_chain := by
  unfold gT_need_chain g_need_chain
  infer_instance
def mT_number_in : Gam → RS :=
  (retM (indexM (fldK ["Picture"] "row" (varM 0)) (varM 1)))
def gT_number_in : List Slot → R Val := gOf 2 2 mT_number_in
instance m_number_in_s [Nm φ] [Wd φ] : Ss φ mT_number_in m_number_in := by
  unfold mT_number_in m_number_in
  infer_instance
instance g_number_in_s [Nm φ] [Wd φ] : Sg φ gT_number_in g_number_in := by
  unfold gT_number_in g_number_in
  infer_instance
def mT_figures_of : Gam → RS :=
  (retM (callM sumF (consA (compM (srcZT (varM 1)) (tgN 2) yesM (fzL (bin shlF (constM (.int 1)) (callM (callG gT_number_in) (consA (varM 0) (consA (varM 2) nilA))))) [2] [2]) nilA)))
def gT_figures_of : List Slot → R Val := gOf 2 3 mT_figures_of
instance m_figures_of_s [Nm φ] [Wd φ] : Ss φ mT_figures_of m_figures_of := by
  unfold mT_figures_of m_figures_of
  infer_instance
instance g_figures_of_s [Nm φ] [Wd φ] : Sg φ gT_figures_of g_figures_of := by
  unfold gT_figures_of g_figures_of
  infer_instance
def mT_chain_of : Gam → RS :=
  (retM (callM tupF (consA (callM sortF (consA (compM (enumM (fzA (consD (fldM ["Picture"] "row" (varM 0)) nilD))) (tgT 2 (tgCons (tgN 2) (tgCons (tgN 3) tgNil))) (testM (bin (eqF false) (bin andF (bin shrF (varM 1) (varM 2)) (constM (.int 1))) (constM (.int 1)))) (fzL (varM 3)) ([2] ++ ([3] ++ [])) [2, 3]) nilA)) nilA)))
def gT_chain_of : List Slot → R Val := gOf 2 4 mT_chain_of
instance m_chain_of_s [Nm φ] [Wd φ] : Ss φ mT_chain_of m_chain_of := by
  unfold mT_chain_of m_chain_of
  infer_instance
instance g_chain_of_s [Nm φ] [Wd φ] : Sg φ gT_chain_of g_chain_of := by
  unfold gT_chain_of g_chain_of
  infer_instance
def mT_last_of : Gam → RS :=
  (retM (bin subF (bitsM (varM 0)) (constM (.int 1))))
def gT_last_of : List Slot → R Val := gOf 1 1 mT_last_of
instance m_last_of_s [Nm φ] [Wd φ] : Ss φ mT_last_of m_last_of := by
  unfold mT_last_of m_last_of
  infer_instance
instance g_last_of_s [Nm φ] [Wd φ] : Sg φ gT_last_of g_last_of := by
  unfold gT_last_of g_last_of
  infer_instance
def mT_edges : Gam → RS :=
  (retM (compM (srcZT (fldM ["Picture"] "row" (varM 0))) (tgN 1) yesM (fzL (callM (callG gT_figures_of) (consA (varM 0) (consA (callM (callG gT_sides_of) (consA (varM 1) nilA)) nilA)))) [1] [1]))
def gT_edges : List Slot → R Val := gOf 1 2 mT_edges
instance m_edges_s [Nm φ] [Wd φ] : Ss φ mT_edges m_edges := by
  unfold mT_edges m_edges
  infer_instance
instance g_edges_s [Nm φ] [Wd φ] : Sg φ gT_edges g_edges := by
  unfold gT_edges g_edges
  infer_instance
def mT_edge_of : Gam → RS :=
  (seqM (setM 2 (constM (.int 0)))
    (seqM (forM (enumM (fzA (consD (callM (callG gT_edges) (consA (varM 0) nilA)) nilD))) (tgT 2 (tgCons (tgN 3) (tgCons (tgN 4) tgNil)))
    (ifS (testM (bin (eqF false) (bin andF (bin shrF (varM 1) (varM 3)) (constM (.int 1))) (constM (.int 1))))
    (setM 2 (bin xorF (varM 2) (varM 4)))
    nextM))
    (retM (varM 2))))
def gT_edge_of : List Slot → R Val := gOf 2 5 mT_edge_of
instance m_edge_of_s [Nm φ] [Wd φ] : Ss φ mT_edge_of m_edge_of := by
  unfold mT_edge_of m_edge_of
  infer_instance
instance g_edge_of_s [Nm φ] [Wd φ] : Sg φ gT_edge_of g_edge_of := by
  unfold gT_edge_of g_edge_of
  infer_instance
def mT_edge : Gam → RS :=
  (seqM (exprM (callM (callG gT_need_chain) (consA (varM 0) (consA (varM 1) nilA))))
    (retM (callM (callG gT_chain_of) (consA (varM 0) (consA (callM (callG gT_edge_of) (consA (varM 0) (consA (callM (callG gT_figures_of) (consA (varM 0) (consA (varM 1) nilA))) nilA))) nilA)))))
def gT_edge : List Slot → R Val := gOf 2 2 mT_edge
instance m_edge_s [Nm φ] [Wd φ] : Ss φ mT_edge m_edge := by
  unfold mT_edge m_edge
  infer_instance
instance g_edge_s [Nm φ] [Wd φ] : Sg φ gT_edge g_edge := by
  unfold gT_edge g_edge
  infer_instance
def mT_is_ring : Gam → RS :=
  (retM (bin (eqF false) (callM (callG gT_edge) (consA (varM 0) (consA (varM 1) nilA))) (tupM nilD)))
def gT_is_ring : List Slot → R Val := gOf 2 2 mT_is_ring
instance m_is_ring_s [Nm φ] [Wd φ] : Ss φ mT_is_ring m_is_ring := by
  unfold mT_is_ring m_is_ring
  infer_instance
instance g_is_ring_s [Nm φ] [Wd φ] : Sg φ gT_is_ring g_is_ring := by
  unfold gT_is_ring g_is_ring
  infer_instance
def mT_numbers_there : Gam → RS :=
  (seqM (setM 3 (lstM nilD))
    (seqM (forM (enumM (fzA (consD (fldM ["Picture"] "row" (varM 0)) nilD))) (tgT 2 (tgCons (tgN 4) (tgCons (tgN 5) tgNil)))
    (ifS (andT (testM (bin (eqF false) (callM lenT (consA (varM 5) nilA)) (bin addT (varM 1) (constM (.int 1))))) (testM (bin leF (bin ixT (fldM ["Picture"] "times" (varM 0)) (varM 4)) (varM 2))))
    (exprM (appendM 3 (varM 4)))
    nextM))
    (retM (varM 3))))
def gT_numbers_there : List Slot → R Val := gOf 3 6 mT_numbers_there
instance m_numbers_there_s [Nm φ] [Wd φ] : Ss φ mT_numbers_there m_numbers_there := by
  unfold mT_numbers_there m_numbers_there
  infer_instance
instance g_numbers_there_s [Nm φ] [Wd φ] : Sg φ gT_numbers_there g_numbers_there := by
  unfold gT_numbers_there g_numbers_there
  infer_instance
def mT_Basis___init__ : Gam → RS :=
  kinitM
def gT_Basis___init__ : List Slot → R Val := gOf 1 1 mT_Basis___init__
instance m_Basis___init___s [Nm φ] [Wd φ] : Ss φ mT_Basis___init__ m_Basis___init__ := by
  unfold mT_Basis___init__ m_Basis___init__
  infer_instance
instance g_Basis___init___s [Nm φ] [Wd φ] : Sg φ gT_Basis___init__ g_Basis___init__ := by
  unfold gT_Basis___init__ g_Basis___init__
  infer_instance
def mT_Basis_reduced : Gam → RS :=
  (seqM (fun Γ => whileGo (andT (testM (bin (eqF true) (varM 1) (constM (.int 0)))) (testM (kinM (callM (callG gT_last_of) (consA (varM 1) nilA)))))
    (seqM (asgM (kgetM gT_last_of 1) (tgT 2 (tgCons (tgN 3) (tgCons (tgN 4) tgNil))))
    (par2M 1 2 (bin xorF (varM 1) (varM 3)) (bin xorF (varM 2) (varM 4)))) 1000 Γ)
    (retM (tupM (consD (varM 1) (consD (varM 2) nilD)))))
def gT_Basis_reduced : List Slot → R Val := gOf 3 5 mT_Basis_reduced
instance m_Basis_reduced_s [Nm φ] [Wd φ] : Ss φ mT_Basis_reduced m_Basis_reduced := by
  unfold mT_Basis_reduced m_Basis_reduced
  infer_instance
instance g_Basis_reduced_s [Nm φ] [Wd φ] : Sg φ gT_Basis_reduced g_Basis_reduced := by
  unfold gT_Basis_reduced g_Basis_reduced
  infer_instance
def mT_Basis_take : Gam → RS :=
  (seqM (asgM (methM "Basis" "reduced" gT_Basis_reduced (varM 0) (consA (varM 1) (consA (varM 2) nilA))) (tgT 2 (tgCons (tgN 1) (tgCons (tgN 2) tgNil))))
    (seqM (ifS (testM (bin (eqF true) (varM 1) (constM (.int 0))))
    (kputM gT_last_of 1 (tupM (consD (varM 1) (consD (varM 2) nilD))))
    nextM)
    (retM (tupM (consD (varM 1) (consD (varM 2) nilD))))))
def gT_Basis_take : List Slot → R Val := gOf 3 3 mT_Basis_take
instance m_Basis_take_s [Nm φ] [Wd φ] : Ss φ mT_Basis_take m_Basis_take := by
  unfold mT_Basis_take m_Basis_take
  infer_instance
instance g_Basis_take_s [Nm φ] [Wd φ] : Sg φ gT_Basis_take g_Basis_take := by
  unfold gT_Basis_take g_Basis_take
  infer_instance
def mT_basis_of : Gam → RS :=
  (seqM (par2M 2 3 (callM (callG gT_edges) (consA (varM 0) nilA)) (fun Γ => makeV "Basis" gT_Basis___init__ Γ []))
    (seqM (forM (srcZT (varM 1)) (tgN 4)
    (exprM (methM "Basis" "take" gT_Basis_take (varM 3) (consA (bin ixT (varM 2) (varM 4)) (consA (bin shlF (constM (.int 1)) (varM 4)) nilA)))))
    (retM (varM 3))))
def gT_basis_of : List Slot → R Val := gOf 2 5 mT_basis_of
instance m_basis_of_s [Nm φ] [Wd φ] : Ss φ mT_basis_of m_basis_of := by
  unfold mT_basis_of m_basis_of
  infer_instance
instance g_basis_of_s [Nm φ] [Wd φ] : Sg φ gT_basis_of g_basis_of := by
  unfold gT_basis_of g_basis_of
  infer_instance
def mT_need_ring : Gam → RS :=
  (seqM (exprM (callM (callG gT_need_chain) (consA (varM 0) (consA (varM 1) nilA))))
    (ifS (testM (bin (eqF true) (callM (callG gT_edge_of) (consA (varM 0) (consA (callM (callG gT_figures_of) (consA (varM 0) (consA (varM 1) nilA))) nilA))) (constM (.int 0))))
    (fun _ => .stuck)
    nextM))
def gT_need_ring : List Slot → R Val := gOf 2 2 mT_need_ring
instance m_need_ring_s [Nm φ] [Wd φ] : Ss φ mT_need_ring m_need_ring := by
  unfold mT_need_ring m_need_ring
  infer_instance
instance g_need_ring_s [Nm φ] [Wd φ] : Sg φ gT_need_ring g_need_ring := by
  unfold gT_need_ring g_need_ring
  infer_instance
def mT_filling : Gam → RS :=
  (seqM (exprM (callM (callG gT_need_ring) (consA (varM 0) (consA (varM 1) nilA))))
    (seqM (exprM (callM (callG gT_need_time) (consA (varM 2) nilA)))
    (seqM (ifS (testM (bin (eqF false) (varM 1) (tupM nilD)))
    (retM (tupM nilD))
    nextM)
    (seqM (setM 3 (callM (callG gT_basis_of) (consA (varM 0) (consA (callM (callG gT_numbers_there) (consA (varM 0) (consA (callM lenT (consA (bin ixT (varM 1) (constM (.int 0))) nilA)) (consA (varM 2) nilA)))) nilA))))
    (seqM (asgM (methM "Basis" "reduced" gT_Basis_reduced (varM 3) (consA (callM (callG gT_figures_of) (consA (varM 0) (consA (varM 1) nilA))) (consA (constM (.int 0)) nilA))) (tgT 2 (tgCons (tgN 4) (tgCons (tgN 5) tgNil))))
    (retM (ifM (testM (bin (eqF false) (varM 4) (constM (.int 0)))) (callM (callG gT_chain_of) (consA (varM 0) (consA (varM 5) nilA))) (constM .none))))))))
def gT_filling : List Slot → R Val := gOf 3 6 mT_filling
instance m_filling_s [Nm φ] [Wd φ] : Ss φ mT_filling m_filling := by
  unfold mT_filling m_filling
  infer_instance
instance g_filling_s [Nm φ] [Wd φ] : Sg φ gT_filling g_filling := by
  unfold gT_filling g_filling
  infer_instance
def mT_is_filled : Gam → RS :=
  (retM (bin (isF' true) (callM (callG gT_filling) (consA (varM 0) (consA (varM 1) (consA (varM 2) nilA)))) (constM .none)))
def gT_is_filled : List Slot → R Val := gOf 3 3 mT_is_filled
instance m_is_filled_s [Nm φ] [Wd φ] : Ss φ mT_is_filled m_is_filled := by
  unfold mT_is_filled m_is_filled
  infer_instance
instance g_is_filled_s [Nm φ] [Wd φ] : Sg φ gT_is_filled g_is_filled := by
  unfold gT_is_filled g_is_filled
  infer_instance
def mT_Basis_rank : Gam → RS :=
  (retM klenM)
def gT_Basis_rank : List Slot → R Val := gOf 1 1 mT_Basis_rank
instance m_Basis_rank_s [Nm φ] [Wd φ] : Ss φ mT_Basis_rank m_Basis_rank := by
  unfold mT_Basis_rank m_Basis_rank
  infer_instance
instance g_Basis_rank_s [Nm φ] [Wd φ] : Sg φ gT_Basis_rank g_Basis_rank := by
  unfold gT_Basis_rank g_Basis_rank
  infer_instance
def mT_holes : Gam → RS :=
  (seqM (exprM (callM (callG gT_need_kind) (consA (varM 1) nilA)))
    (seqM (exprM (callM (callG gT_need_time) (consA (varM 2) nilA)))
    (seqM (setM 3 (callM (callG gT_numbers_there) (consA (varM 0) (consA (varM 1) (consA (varM 2) nilA)))))
    (seqM (setM 4 (methM "Basis" "rank" gT_Basis_rank (callM (callG gT_basis_of) (consA (varM 0) (consA (callM (callG gT_numbers_there) (consA (varM 0) (consA (bin addT (varM 1) (constM (.int 1))) (consA (varM 2) nilA)))) nilA))) nilA))
    (retM (bin subF (bin subF (callM lenT (consA (varM 3) nilA)) (methM "Basis" "rank" gT_Basis_rank (callM (callG gT_basis_of) (consA (varM 0) (consA (varM 3) nilA))) nilA)) (varM 4)))))))
def gT_holes : List Slot → R Val := gOf 3 5 mT_holes
instance m_holes_s [Nm φ] [Wd φ] : Ss φ mT_holes m_holes := by
  unfold mT_holes m_holes
  infer_instance
instance g_holes_s [Nm φ] [Wd φ] : Sg φ gT_holes g_holes := by
  unfold gT_holes g_holes
  infer_instance
def mT_need_place : Gam → RS :=
  (ifS (notT (testM (callM (callG gT_is_among) (consA (varM 1) (consA (constM (.int 0)) (consA (bin subF (callM lenT (consA (fldM ["Picture"] "row" (varM 0)) nilA)) (constM (.int 1))) nilA))))))
    (fun _ => .stuck)
    nextM)
def gT_need_place : List Slot → R Val := gOf 2 2 mT_need_place
instance m_need_place_s [Nm φ] [Wd φ] : Ss φ mT_need_place m_need_place := by
  unfold mT_need_place m_need_place
  infer_instance
instance g_need_place_s [Nm φ] [Wd φ] : Sg φ gT_need_place g_need_place := by
  unfold gT_need_place g_need_place
  infer_instance
def mT_Pairing_enders : Gam → RS :=
  (retM (lvalsM (fldM ["Pairing"] "ends" (varM 0))))
def gT_Pairing_enders : List Slot → R Val := gOf 1 1 mT_Pairing_enders
instance m_Pairing_enders_s [Nm φ] [Wd φ] : Ss φ mT_Pairing_enders m_Pairing_enders := by
  unfold mT_Pairing_enders m_Pairing_enders
  infer_instance
instance g_Pairing_enders_s [Nm φ] [Wd φ] : Sg φ gT_Pairing_enders g_Pairing_enders := by
  unfold gT_Pairing_enders g_Pairing_enders
  infer_instance
def mT_Pairing___init__ : Gam → RS :=
  (seqM pinitM
    (seqM (setM 2 (fun Γ => makeV "Basis" gT_Basis___init__ Γ []))
    (seqM (forM (enumM (fzA (consD (callM (callG gT_edges) (consA (varM 1) nilA)) nilD))) (tgT 2 (tgCons (tgN 3) (tgCons (tgN 4) tgNil)))
    (seqM (asgM (methM "Basis" "take" gT_Basis_take (varM 2) (consA (varM 4) (consA (bin shlF (constM (.int 1)) (varM 3)) nilA))) (tgT 2 (tgCons (tgN 5) (tgCons (tgN 6) tgNil))))
    (seqM (pappM 6)
    (ifS (testM (bin (eqF true) (varM 5) (constM (.int 0))))
    (pputM gT_last_of 5 3)
    nextM))))
    pendM)))
def gT_Pairing___init__ : List Slot → R Val := gOf 2 7 mT_Pairing___init__
instance m_Pairing___init___s [Nm φ] [Wd φ] : Ss φ mT_Pairing___init__ m_Pairing___init__ := by
  unfold mT_Pairing___init__ m_Pairing___init__
  infer_instance
instance g_Pairing___init___s [Nm φ] [Wd φ] : Sg φ gT_Pairing___init__ g_Pairing___init__ := by
  unfold gT_Pairing___init__ g_Pairing___init__
  infer_instance
def mT_begins : Gam → RS :=
  (seqM (exprM (callM (callG gT_need_place) (consA (varM 0) (consA (varM 1) nilA))))
    (retM (bin (inT true) (varM 1) (methM "Pairing" "enders" gT_Pairing_enders (callM (makeV "Pairing" gT_Pairing___init__) (consA (varM 0) nilA)) nilA))))
def gT_begins : List Slot → R Val := gOf 2 2 mT_begins
instance m_begins_s [Nm φ] [Wd φ] : Ss φ mT_begins m_begins := by
  unfold mT_begins m_begins
  infer_instance
instance g_begins_s [Nm φ] [Wd φ] : Sg φ gT_begins g_begins := by
  unfold gT_begins g_begins
  infer_instance
def mT_ended_by : Gam → RS :=
  (seqM (exprM (callM (callG gT_need_place) (consA (varM 0) (consA (varM 1) nilA))))
    (retM (getM (fldM ["Pairing"] "ends" (callM (makeV "Pairing" gT_Pairing___init__) (consA (varM 0) nilA))) (varM 1))))
def gT_ended_by : List Slot → R Val := gOf 2 2 mT_ended_by
instance m_ended_by_s [Nm φ] [Wd φ] : Ss φ mT_ended_by m_ended_by := by
  unfold mT_ended_by m_ended_by
  infer_instance
instance g_ended_by_s [Nm φ] [Wd φ] : Sg φ gT_ended_by g_ended_by := by
  unfold gT_ended_by g_ended_by
  infer_instance
def mT_bars : Gam → RS :=
  (seqM (exprM (callM (callG gT_need_kind) (consA (varM 1) nilA)))
    (seqM (setM 2 (lstM nilD))
    (seqM (forM (itemsM (fldM ["Pairing"] "ends" (callM (makeV "Pairing" gT_Pairing___init__) (consA (varM 0) nilA)))) (tgT 2 (tgCons (tgN 3) (tgCons (tgN 4) tgNil)))
    (ifS (andT (testM (bin (eqF false) (callM lenT (consA (bin ixT (fldM ["Picture"] "row" (varM 0)) (varM 3)) nilA)) (bin addT (varM 1) (constM (.int 1))))) (testM (bin (eqF true) (bin ixT (fldM ["Picture"] "times" (varM 0)) (varM 3)) (bin ixT (fldM ["Picture"] "times" (varM 0)) (varM 4)))))
    (exprM (appendM 2 (tupM (consD (bin ixT (fldM ["Picture"] "times" (varM 0)) (varM 3)) (consD (bin ixT (fldM ["Picture"] "times" (varM 0)) (varM 4)) nilD)))))
    nextM))
    (retM (callM tupF (consA (callM sortF (consA (varM 2) nilA)) nilA))))))
def gT_bars : List Slot → R Val := gOf 2 5 mT_bars
instance m_bars_s [Nm φ] [Wd φ] : Ss φ mT_bars m_bars := by
  unfold mT_bars m_bars
  infer_instance
instance g_bars_s [Nm φ] [Wd φ] : Sg φ gT_bars g_bars := by
  unfold gT_bars g_bars
  infer_instance
def mT_lasting : Gam → RS :=
  (seqM (exprM (callM (callG gT_need_kind) (consA (varM 1) nilA)))
    (seqM (par2M 2 3 (callM (makeV "Pairing" gT_Pairing___init__) (consA (varM 0) nilA)) (lstM nilD))
    (seqM (setM 4 (methM "Pairing" "enders" gT_Pairing_enders (varM 2) nilA))
    (seqM (forM (enumM (fzA (consD (fldM ["Picture"] "row" (varM 0)) nilD))) (tgT 2 (tgCons (tgN 5) (tgCons (tgN 6) tgNil)))
    (ifS (andT (testM (bin (eqF false) (callM lenT (consA (varM 6) nilA)) (bin addT (varM 1) (constM (.int 1))))) (andT (testM (bin (inT true) (varM 5) (varM 4))) (testM (bin (inT true) (varM 5) (fldM ["Pairing"] "ends" (varM 2))))))
    (exprM (appendM 3 (bin ixT (fldM ["Picture"] "times" (varM 0)) (varM 5))))
    nextM))
    (retM (callM tupF (consA (varM 3) nilA)))))))
def gT_lasting : List Slot → R Val := gOf 2 7 mT_lasting
instance m_lasting_s [Nm φ] [Wd φ] : Ss φ mT_lasting m_lasting := by
  unfold mT_lasting m_lasting
  infer_instance
instance g_lasting_s [Nm φ] [Wd φ] : Sg φ gT_lasting g_lasting := by
  unfold gT_lasting g_lasting
  infer_instance
def mT_showings : Gam → RS :=
  (retM (callM tupF (consA (compM (srcZT (fldM ["Pairing"] "chains" (callM (makeV "Pairing" gT_Pairing___init__) (consA (varM 0) nilA)))) (tgN 1) yesM (fzL (callM (callG gT_chain_of) (consA (varM 0) (consA (varM 1) nilA)))) [1] [1]) nilA)))
def gT_showings : List Slot → R Val := gOf 1 2 mT_showings
instance m_showings_s [Nm φ] [Wd φ] : Ss φ mT_showings m_showings := by
  unfold mT_showings m_showings
  infer_instance
instance g_showings_s [Nm φ] [Wd φ] : Sg φ gT_showings g_showings := by
  unfold gT_showings g_showings
  infer_instance
def mT_is_last : Gam → RS :=
  (seqM (ifS (orT (notT (testM (callM (callG gT_is_chain) (consA (varM 0) (consA (varM 1) nilA))))) (orT (testM (bin (eqF false) (varM 1) (tupM nilD))) (testM (bin (eqF true) (callM lenT (consA (bin ixT (varM 1) (constM (.int 0))) nilA)) (callM lenT (consA (bin ixT (fldM ["Picture"] "row" (varM 0)) (varM 2)) nilA))))))
    (retM (constM (.bool false)))
    nextM)
    (retM (bin (eqF false) (callM maxF (consA (compM (srcZT (varM 1)) (tgN 3) yesM (fzL (callM (callG gT_number_in) (consA (varM 0) (consA (varM 3) nilA)))) [3] [3]) nilA)) (varM 2))))
def gT_is_last : List Slot → R Val := gOf 3 4 mT_is_last
instance m_is_last_s [Nm φ] [Wd φ] : Ss φ mT_is_last m_is_last := by
  unfold mT_is_last m_is_last
  infer_instance
instance g_is_last_s [Nm φ] [Wd φ] : Sg φ gT_is_last g_is_last := by
  unfold gT_is_last g_is_last
  infer_instance
def mT_check : Gam → RS :=
  (seqM (ifS (orT (notT (testM (isTyM .tup (varM 1)))) (testM (bin (eqF true) (callM lenT (consA (varM 1) nilA)) (callM lenT (consA (fldM ["Picture"] "row" (varM 0)) nilA)))))
    (fun _ => .stuck)
    nextM)
    (seqM (setM 2 (lstM nilD))
    (seqM (forM (enumM (fzA (consD (varM 1) nilD))) (tgT 2 (tgCons (tgN 3) (tgCons (tgN 4) tgNil)))
    (seqM (ifS (notT (testM (callM (callG gT_is_last) (consA (varM 0) (consA (varM 4) (consA (varM 3) nilA))))))
    (fun _ => .stuck)
    nextM)
    (seqM (setM 5 (callM (callG gT_edge_of) (consA (varM 0) (consA (callM (callG gT_figures_of) (consA (varM 0) (consA (varM 4) nilA))) nilA))))
    (ifS (testM (bin (eqF true) (varM 5) (constM (.int 0))))
    (seqM (ifS (testM (bin (inT false) (callM (callG gT_last_of) (consA (varM 5) nilA)) (varM 2)))
    (fun _ => .stuck)
    nextM)
    (exprM (appendM 2 (callM (callG gT_last_of) (consA (varM 5) nilA)))))
    nextM))))
    (retM (bin subF (callM lenT (consA (varM 1) nilA)) (callM lenT (consA (varM 2) nilA)))))))
def gT_check : List Slot → R Val := gOf 2 6 mT_check
instance m_check_s [Nm φ] [Wd φ] : Ss φ mT_check m_check := by
  unfold mT_check m_check
  infer_instance
instance g_check_s [Nm φ] [Wd φ] : Sg φ gT_check g_check := by
  unfold gT_check g_check
  infer_instance
def mT_Picture___init__ : Gam → RS :=
  (seqM (ifS (orT (notT (testM (isTy2M .lst .tup (varM 1)))) (notT (testM (chainM leF leF (constM (.int 1)) (callM lenT (consA (varM 1) nilA)) (constM (.int 22))))))
    (fun _ => .stuck)
    nextM)
    (seqM (exprM (callM (callG gT_need_items) (consA (varM 1) nilA)))
    (seqM (ifS (testM (bin gtF (callM lenT (consA (compM (srcZT (varM 1)) (tgT 2 (tgCons (tgN 2) (tgCons (tgN 3) tgNil))) (testM (bin (eqF false) (callM lenT (consA (varM 2) nilA)) (constM (.int 1)))) (fzL (constM (.int 1))) ([2] ++ ([3] ++ [])) [2, 3]) nilA)) (constM (.int 7))))
    (fun _ => .stuck)
    nextM)
    (seqM (setM 4 (callM (callG gT_lacking) (consA (varM 1) nilA)))
    (seqM (ifS (testM (bin (isF' true) (varM 4) (constM .none)))
    (fun _ => .stuck)
    nextM)
    (seqM (setM 5 (sortKM gT_in_row (varM 1)))
    (seqM (fldS "Picture" "row" 0 (callM tupKF (consA (compM (srcZT (varM 5)) (tgT 2 (tgCons (tgN 2) (tgCons (tgN 3) tgNil))) yesM (fzL (varM 2)) ([2] ++ ([3] ++ [])) [2, 3]) nilA)))
    (fldS "Picture" "times" 0 (callM tupF (consA (compM (srcZT (varM 5)) (tgT 2 (tgCons (tgN 2) (tgCons (tgN 3) tgNil))) yesM (fzL (varM 3)) ([2] ++ ([3] ++ [])) [2, 3]) nilA))))))))))
def gT_Picture___init__ : List Slot → R Val := gOf 2 6 mT_Picture___init__
instance m_Picture___init___s [Nm φ] [Wd φ] : Ss φ mT_Picture___init__ m_Picture___init__ := by
  unfold mT_Picture___init__ m_Picture___init__
  infer_instance
instance g_Picture___init___s [Nm φ] [Wd φ] : Sg φ gT_Picture___init__ g_Picture___init__ := by
  unfold gT_Picture___init__ g_Picture___init__
  infer_instance
def mT_Picture___eq__ : Gam → RS :=
  (retM (andM (isClM "Picture" (varM 1)) (bin (eqF false) (tupM (consD (fldM ["Picture"] "row" (varM 0)) (consD (fldM ["Picture"] "times" (varM 0)) nilD))) (tupM (consD (fldM ["Picture"] "row" (varM 1)) (consD (fldM ["Picture"] "times" (varM 1)) nilD))))))
def gT_Picture___eq__ : List Slot → R Val := gOf 2 2 mT_Picture___eq__
instance m_Picture___eq___s [Nm φ] [Wd φ] : Ss φ mT_Picture___eq__ m_Picture___eq__ := by
  unfold mT_Picture___eq__ m_Picture___eq__
  infer_instance
instance g_Picture___eq___s [Nm φ] [Wd φ] : Sg φ gT_Picture___eq__ g_Picture___eq__ := by
  unfold gT_Picture___eq__ g_Picture___eq__
  infer_instance
def mT_Picture_pairs : Gam → RS :=
  (retM (listZipM (fzA (consD (fldM ["Picture"] "row" (varM 0)) (consD (fldM ["Picture"] "times" (varM 0)) nilD)))))
def gT_Picture_pairs : List Slot → R Val := gOf 1 1 mT_Picture_pairs
instance m_Picture_pairs_s [Nm φ] [Wd φ] : Ss φ mT_Picture_pairs m_Picture_pairs := by
  unfold mT_Picture_pairs m_Picture_pairs
  infer_instance
instance g_Picture_pairs_s [Nm φ] [Wd φ] : Sg φ gT_Picture_pairs g_Picture_pairs := by
  unfold gT_Picture_pairs g_Picture_pairs
  infer_instance
def mT_Picture_with_thing : Gam → RS :=
  (seqM (ifS (testM (bin (eqF false) (callM lenT (consA (fldM ["Picture"] "row" (varM 0)) nilA)) (constM (.int 22))))
    (fun _ => .stuck)
    nextM)
    (retM (callM (makeV "Picture" gT_Picture___init__) (consA (lstM (starD (methM "Picture" "pairs" gT_Picture_pairs (varM 0) nilA) (consD (tupM (consD (varM 1) (consD (varM 2) nilD))) nilD))) nilA))))
def gT_Picture_with_thing : List Slot → R Val := gOf 3 3 mT_Picture_with_thing
instance m_Picture_with_thing_s [Nm φ] [Wd φ] : Ss φ mT_Picture_with_thing m_Picture_with_thing := by
  unfold mT_Picture_with_thing m_Picture_with_thing
  infer_instance
instance g_Picture_with_thing_s [Nm φ] [Wd φ] : Sg φ gT_Picture_with_thing g_Picture_with_thing := by
  unfold gT_Picture_with_thing g_Picture_with_thing
  infer_instance
def mT_Picture_need_thing : Gam → RS :=
  (ifS (notT (testM (methM "Picture" "has" gT_Picture_has (varM 0) (consA (varM 1) nilA))))
    (fun _ => .stuck)
    nextM)
def gT_Picture_need_thing : List Slot → R Val := gOf 2 2 mT_Picture_need_thing
instance m_Picture_need_thing_s [Nm φ] [Wd φ] : Ss φ mT_Picture_need_thing m_Picture_need_thing := by
  unfold mT_Picture_need_thing m_Picture_need_thing
  infer_instance
instance g_Picture_need_thing_s [Nm φ] [Wd φ] : Sg φ gT_Picture_need_thing g_Picture_need_thing := by
  unfold gT_Picture_need_thing g_Picture_need_thing
  infer_instance
def mT_Picture_timed : Gam → RS :=
  (seqM (exprM (methM "Picture" "need_thing" gT_Picture_need_thing (varM 0) (consA (varM 1) nilA)))
    (seqM (exprM (callM (callG gT_need_time) (consA (varM 2) nilA)))
    (seqM (setM 3 (compM (srcZT (methM "Picture" "pairs" gT_Picture_pairs (varM 0) nilA)) (tgT 2 (tgCons (tgN 4) (tgCons (tgN 5) tgNil))) yesM (fzL (tupM (consD (varM 4) (consD (ifM (testM (bin (eqF false) (varM 4) (varM 1))) (varM 2) (varM 5)) nilD)))) ([4] ++ ([5] ++ [])) [4, 5]))
    (seqM (setM 6 (callM (callG gT_lacking) (consA (varM 3) nilA)))
    (seqM (ifS (testM (bin (isF' true) (varM 6) (constM .none)))
    (fun _ => .stuck)
    nextM)
    (retM (callM (makeV "Picture" gT_Picture___init__) (consA (varM 3) nilA))))))))
def gT_Picture_timed : List Slot → R Val := gOf 3 7 mT_Picture_timed
instance m_Picture_timed_s [Nm φ] [Wd φ] : Ss φ mT_Picture_timed m_Picture_timed := by
  unfold mT_Picture_timed m_Picture_timed
  infer_instance
instance g_Picture_timed_s [Nm φ] [Wd φ] : Sg φ gT_Picture_timed g_Picture_timed := by
  unfold gT_Picture_timed g_Picture_timed
  infer_instance
def mT_Picture_without : Gam → RS :=
  (seqM (exprM (methM "Picture" "need_thing" gT_Picture_need_thing (varM 0) (consA (varM 1) nilA)))
    (seqM (ifS (orT (testM (bin (eqF false) (callM lenT (consA (fldM ["Picture"] "row" (varM 0)) nilA)) (constM (.int 1)))) (testM (callM anyF (consA (compM (srcZT (fldM ["Picture"] "row" (varM 0))) (tgN 2) yesM (fzL (bin (inT false) (varM 1) (callM (callG gT_sides_of) (consA (varM 2) nilA)))) [2] [2]) nilA))))
    (fun _ => .stuck)
    nextM)
    (retM (callM (makeV "Picture" gT_Picture___init__) (consA (compM (srcZT (methM "Picture" "pairs" gT_Picture_pairs (varM 0) nilA)) (tgN 3) (testM (bin (eqF true) (bin ixT (varM 3) (constM (.int 0))) (varM 1))) (fzL (varM 3)) [3] [3]) nilA)))))
def gT_Picture_without : List Slot → R Val := gOf 2 4 mT_Picture_without
instance m_Picture_without_s [Nm φ] [Wd φ] : Ss φ mT_Picture_without m_Picture_without := by
  unfold mT_Picture_without m_Picture_without
  infer_instance
instance g_Picture_without_s [Nm φ] [Wd φ] : Sg φ gT_Picture_without g_Picture_without := by
  unfold gT_Picture_without g_Picture_without
  infer_instance
def mT__law_first_right : Gam → RS :=
  (seqM (ifS (orT (testM (bin (ownF "Picture" gT_Picture___eq__ true) (makeKM "Picture" gT_Picture___init__ 1 [0] (consD (lstM (consD (tupM (consD (tupM (consD (varM 0) nilD)) (consD (constM (.int 0)) nilD))) (consD (tupM (consD (tupM (consD (varM 1) nilD)) (consD (constM (.int 1)) nilD))) (consD (tupM (consD (tupM (consD (varM 0) (consD (varM 1) nilD))) (consD (constM (.int 2)) nilD))) nilD)))) nilD)) (varM 2))) (testM (bin (ownF "Picture" gT_Picture___eq__ true) (methKM "Picture" "timed" gT_Picture_timed 2 [1, 0] (varM 2) (consD (constM (.int 2)) (consD (tupM (consD (varM 0) (consD (varM 1) nilD))) nilD))) (varM 2))))
    (retM (constM (.bool false)))
    nextM)
    (seqM (ifS (testM (bin (ownF "Picture" gT_Picture___eq__ true) (methKM "Picture" "with_thing" gT_Picture_with_thing 2 [1, 0] (methKM "Picture" "without" gT_Picture_without 1 [0] (varM 2) (consD (tupM (consD (varM 0) (consD (varM 1) nilD))) nilD)) (consD (constM (.int 2)) (consD (tupM (consD (varM 0) (consD (varM 1) nilD))) nilD))) (varM 2)))
    (retM (constM (.bool false)))
    nextM)
    (seqM (ifS (testM (bin (isF' true) (callKM gT_is_chain 2 [1, 0] (consD (tupM (consD (tupM (consD (varM 0) nilD)) nilD)) (consD (varM 2) nilD))) (constM (.bool true))))
    (retM (constM (.bool false)))
    nextM)
    (seqM (ifS (orT (testM (bin (eqF true) (callKM gT_edge 2 [1, 0] (consD (tupM (consD (tupM (consD (varM 0) (consD (varM 1) nilD))) nilD)) (consD (varM 2) nilD))) (tupM (consD (tupM (consD (varM 0) nilD)) (consD (tupM (consD (varM 1) nilD)) nilD))))) (testM (bin (isF' true) (callKM gT_is_ring 2 [1, 0] (consD (tupM (consD (tupM (consD (varM 1) nilD)) nilD)) (consD (varM 2) nilD))) (constM (.bool true)))))
    (retM (constM (.bool false)))
    nextM)
    (seqM (ifS (orT (testM (bin (isF' true) (callKM gT_is_filled 3 [2, 1, 0] (consD (constM (.int 2)) (consD (tupM (consD (tupM (consD (varM 0) nilD)) (consD (tupM (consD (varM 1) nilD)) nilD))) (consD (varM 2) nilD)))) (constM (.bool true)))) (testM (bin (eqF true) (callKM gT_holes 3 [2, 1, 0] (consD (constM (.int 1)) (consD (constM (.int 0)) (consD (varM 2) nilD)))) (constM (.int 2)))))
    (retM (constM (.bool false)))
    nextM)
    (retM (bin (eqF false) (callKM gT_filling 3 [2, 1, 0] (consD (constM (.int 2)) (consD (tupM (consD (tupM (consD (varM 0) nilD)) (consD (tupM (consD (varM 1) nilD)) nilD))) (consD (varM 2) nilD)))) (tupM (consD (tupM (consD (varM 0) (consD (varM 1) nilD))) nilD)))))))))
def gT__law_first_right : List Slot → R Val := gOf 3 3 mT__law_first_right
instance m__law_first_right_s [Nm φ] [Wd φ] : Ss φ mT__law_first_right m__law_first_right := by
  unfold mT__law_first_right m__law_first_right
  infer_instance
instance g__law_first_right_s [Nm φ] [Wd φ] : Sg φ gT__law_first_right g__law_first_right := by
  unfold gT__law_first_right g__law_first_right
  infer_instance
def mT__law_second_right : Gam → RS :=
  (seqM (ifS (orT (testM (bin (isF' true) (callKM gT_begins 2 [1, 0] (consD (constM (.int 0)) (consD (varM 0) nilD))) (constM (.bool true)))) (testM (bin (eqF true) (callKM gT_ended_by 2 [1, 0] (consD (constM (.int 1)) (consD (varM 0) nilD))) (constM (.int 2)))))
    (retM (constM (.bool false)))
    nextM)
    (seqM (ifS (orT (testM (bin (eqF true) (callKM gT_bars 2 [1, 0] (consD (constM (.int 0)) (consD (varM 0) nilD))) (tupM (consD (tupM (consD (constM (.int 1)) (consD (constM (.int 2)) nilD))) nilD)))) (testM (bin (eqF true) (callKM gT_lasting 2 [1, 0] (consD (constM (.int 0)) (consD (varM 0) nilD))) (tupM (consD (constM (.int 0)) nilD)))))
    (retM (constM (.bool false)))
    nextM)
    (retM (bin (eqF false) (callKM gT_check 2 [1, 0] (consD (callKM gT_showings 1 [0] (consD (varM 0) nilD)) (consD (varM 0) nilD))) (constM (.int 2))))))
def gT__law_second_right : List Slot → R Val := gOf 1 1 mT__law_second_right
instance m__law_second_right_s [Nm φ] [Wd φ] : Ss φ mT__law_second_right m__law_second_right := by
  unfold mT__law_second_right m__law_second_right
  infer_instance
instance g__law_second_right_s [Nm φ] [Wd φ] : Sg φ gT__law_second_right g__law_second_right := by
  unfold gT__law_second_right g__law_second_right
  infer_instance
def mT_Picture___len__ : Gam → RS :=
  (retM (callM lenT (consA (fldM ["Picture"] "row" (varM 0)) nilA)))
def gT_Picture___len__ : List Slot → R Val := gOf 1 1 mT_Picture___len__
instance m_Picture___len___s [Nm φ] [Wd φ] : Ss φ mT_Picture___len__ m_Picture___len__ := by
  unfold mT_Picture___len__ m_Picture___len__
  infer_instance
instance g_Picture___len___s [Nm φ] [Wd φ] : Sg φ gT_Picture___len__ g_Picture___len__ := by
  unfold gT_Picture___len__ g_Picture___len__
  infer_instance
end DL
end

section
set_option Elab.async false
set_option linter.all false
set_option maxRecDepth 100000
set_option autoImplicit false
set_option maxHeartbeats 4000000
namespace DL
open PySem PySem.Spec PyProof.Rows L2
theorem okE_int (i j : Int) : okE (.int i) (.int j) = true := by simp [okE, PyData.plain, PyData.depth]
theorem next_while (cells : List Int) (at_ many : Int) (rest : List Slot) : ∀ (left : List Int) (n : Nat), left.length < n →
    whileGo (andT rneM (testM (bin (eqF false) rleft0M (constM (.int 0))))) rcutM n (.box 0 (some 0) (rngD cells left at_) :: rest) = .nx (.box 0 (some 0) (rngD cells (left.dropWhile fun z => z == 0) at_) :: rest)
  | [], n + 1, h => by
    unfold whileGo
    simp [andT, rneM]
  | m :: ls, n + 1, h => by
    unfold whileGo
    by_cases hm : m = 0
    · subst hm
      simp [andT, rneM, testM, bin, rd, rdV, rleft0M, constM, eqF, viewD, okE_int, PyData.eqv, rcutM]
      exact next_while cells at_ many rest ls n (by simpa using h)
    · have : (m == 0) = false := by simpa using hm
      simp [andT, rneM, testM, bin, rd, rdV, rleft0M, constM, eqF, viewD, okE_int, PyData.eqv, this, List.dropWhile_cons, hm]

theorem rng_dropW (left : List Int) : (left.dropWhile fun z => z == 0).length ≤ left.length := by
  induction left with
  | nil => simp
  | cons a l ih =>
    rw [List.dropWhile_cons]
    split
    · simp; omega
    · simp
theorem eqv_int (i j : Int) : PyData.eqv (.int i) (.int j) = (i == j) := by simp [PyData.eqv]
theorem eqv_cells (c : List Int) : PyData.eqv (.list (c.map .int)) (.list []) = c.isEmpty := by
  cases c <;> simp [PyData.eqv, PyData.eqvAll]
theorem okE_cells (c : List Int) : okE (.list (c.map .int)) (.list []) = true := by
  simp only [okE, PyData.plain, plain_ints, Bool.and_eq_true, Bool.or_eq_true, decide_eq_true_eq]
  exact ⟨⟨trivial, rfl⟩, .inr (by decide)⟩
theorem seqM_nx {m n : Gam → RS} {Γ Γ1 : Gam} (h : m Γ = .nx Γ1) : seqM m n Γ = n Γ1 := by
  unfold seqM
  rw [h]
theorem okE_nil : okE (.list []) (.list []) = true := by decide
theorem eqv_nil : PyData.eqv (.list []) (.list []) = true := by decide
theorem atI_mod (cells : List Int) (z : Int) (h : 0 < cells.length) : ∃ c, atI (cells.map PyData.int) (z % (cells.length : Int)) = some (.int c) := by
  have h1 : 0 ≤ z % (cells.length : Int) := Int.emod_nonneg _ (by omega)
  have h2 : z % (cells.length : Int) < cells.length := Int.emod_lt_of_pos _ (by omega)
  obtain ⟨k, hk⟩ : ∃ k : Nat, z % (cells.length : Int) = k := ⟨(z % (cells.length : Int)).toNat, by omega⟩
  rw [hk]
  have hk2 : k < cells.length := by omega
  refine ⟨cells[k], ?_⟩
  exact atI_nat (by simp [hk2])
theorem next_spec (cells left : List Int) (at_ many : Int) (hl : left.length < 1000) (h1 : 1 ≤ many) (h2 : many < 1000000) (h3 : 0 ≤ at_) (h4 : at_ < 1000000000) (hc : cells.length ≤ 1000) :
    ∃ r left' at', g__law_next [.box 0 none (rngD cells left at_), .val (.int many)] = .ok (.f (.int r)) [.box 0 none (rngD cells left' at'), .val (.int many)] ∧ 0 ≤ r ∧ r < many ∧ left'.length ≤ left.length ∧ at_ ≤ at' ∧ at' ≤ at_ + 1 := by
  unfold g__law_next gOf
  rw [if_pos ⟨rfl, rfl⟩]
  have e0 : startA 7 [.box 0 none (rngD cells left at_), .val (.int many)] = .box 0 (some 0) (rngD cells left at_) :: [.val (.int many), .un, .un, .un, .un, .un] := rfl
  rw [e0]
  unfold m__law_next
  have hw : (fun Γ => whileGo (andT rneM (testM (bin (eqF false) rleft0M (constM (.int 0))))) rcutM 1000 Γ) (.box 0 (some 0) (rngD cells left at_) :: [.val (.int many), .un, .un, .un, .un, .un]) = _ := next_while cells at_ many [.val (.int many), .un, .un, .un, .un, .un] left 1000 hl
  have hL := rng_dropW left
  rw [seqM_nx hw]
  have hm : 0 < many ∧ many < 1073741824 := by omega
  have hm2 : 0 < many := by omega
  generalize (left.dropWhile fun z => z == 0) = L at hL
  cases L with
  | cons n L =>
    refine ⟨n % many, n / many :: L, at_, ?_, Int.emod_nonneg _ (by omega), Int.emod_lt_of_pos _ (by omega), by simpa using hL, by omega, by omega⟩
    simp [ifS, stm, rneM, seqM, setM, rleft0M, setV, rputM, bin, rd, rdV, varM, fdivF, intF, hm, hm2, fzL, fzV, retM, modF, callM, int1F, consA, nilA, retV, outG, outV, finA, isBx, pinned, unpin]
  | nil =>
    have hif : ifS rneM (seqM (setM 2 rleft0M) (seqM (rputM (bin fdivF (varM 2) (varM 1))) (retM (bin modF (callM int1F (consA (varM 2) nilA)) (varM 1))))) nextM (.box 0 (some 0) (rngD cells [] at_) :: [.val (.int many), .un, .un, .un, .un, .un]) = .nx (.box 0 (some 0) (rngD cells [] at_) :: [.val (.int many), .un, .un, .un, .un, .un]) := by
      simp [ifS, rneM, nextM]
    rw [seqM_nx hif]
    have hp : par2M 3 4 (bin addF ratM (constM (.int 1))) rcellsM (.box 0 (some 0) (rngD cells [] at_) :: [.val (.int many), .un, .un, .un, .un, .un]) = .nx (.box 0 (some 0) (rngD cells [] at_) :: [.val (.int many), .un, .val (.int (at_ + 1)), .val (.list (cells.map .int)), .un, .un]) := by
      simp [par2M, fzL, bin, rd, rdV, ratM, constM, addF, fzV, rcellsM]
    rw [seqM_nx hp]
    have hs : rsetatM 3 (.box 0 (some 0) (rngD cells [] at_) :: [.val (.int many), .un, .val (.int (at_ + 1)), .val (.list (cells.map .int)), .un, .un]) = .nx (.box 0 (some 0) (rngD cells [] (at_ + 1)) :: [.val (.int many), .un, .val (.int (at_ + 1)), .val (.list (cells.map .int)), .un, .un]) := by
      simp [rsetatM]
    rw [seqM_nx hs]
    generalize ha : at_ + 1 = a
    have q1 : mulC a a = true := by simp [mulC]; omega
    obtain ⟨c, hc2⟩ : ∃ c, setM 5 (ifM (testM (bin (eqF true) (varM 4) (lstM nilD))) (callM int1F (consA (bin ixF (varM 4) (bin modF (callM int1F (consA (bin addF (bin mulF (varM 3) (varM 3)) (bin fdivF (varM 3) (constM (.int 2)))) nilA)) (callM lenF (consA (varM 4) nilA)))) nilA)) (constM (.int 5)))
        (.box 0 (some 0) (rngD cells [] a) :: [.val (.int many), .un, .val (.int a), .val (.list (cells.map .int)), .un, .un]) = .nx (.box 0 (some 0) (rngD cells [] a) :: [.val (.int many), .un, .val (.int a), .val (.list (cells.map .int)), .val (.int c), .un]) := by
      by_cases hz : cells = []
      · subst hz
        refine ⟨5, ?_⟩
        simp [setM, ifM, testM, bin, rd, rdV, varM, lstM, nilD, fldD, eqF, viewD, okE_nil, eqv_nil, constM, setV]
      · have hpos : 0 < cells.length := List.length_pos_iff.mpr hz
        obtain ⟨c, hcc⟩ := atI_mod cells (a * a + a / 2) hpos
        have hne : cells.isEmpty = false := by cases cells with | nil => exact absurd rfl hz | cons _ _ => rfl
        refine ⟨c, ?_⟩
        have hcells : cells.length ≤ sizeLine := Nat.le_trans hc (by decide)
        simp [setM, ifM, testM, bin, rd, rdV, varM, lstM, nilD, fldD, eqF, viewD, okE_cells, eqv_cells, hne, callM, int1F, consA, nilA, mulF, q1, fdivF, intF, constM, addF, lenF, modF, hpos, ixF, hcc, setV, hcells]
    rw [seqM_nx hc2]
    have q2 : ∀ z : Int, mulC z 40692 = true := fun z => by simp [mulC]
    have q3 : mulC a 65539 = true := by simp [mulC]
    have q4 : mulC 7001 a = true := by simp [mulC]
    have q5 : mulC (7001 * a) a = true := by simp [mulC]; omega
    obtain ⟨d, hd⟩ : ∃ d, setM 6 (bin modF (callM int1F (consA (bin addF (bin addF (bin mulF (varM 5) (constM (.int 40692))) (bin mulF (varM 3) (constM (.int 65539)))) (bin mulF (bin mulF (constM (.int 7001)) (varM 3)) (varM 3))) nilA)) (constM (.int 2147483399)))
        (.box 0 (some 0) (rngD cells [] a) :: [.val (.int many), .un, .val (.int a), .val (.list (cells.map .int)), .val (.int c), .un]) = .nx (.box 0 (some 0) (rngD cells [] a) :: [.val (.int many), .un, .val (.int a), .val (.list (cells.map .int)), .val (.int c), .val (.int d)]) := by
      refine ⟨(c * 40692 + a * 65539 + 7001 * a * a) % 2147483399, ?_⟩
      simp [setM, bin, rd, rdV, varM, constM, mulF, q2, q3, q4, q5, addF, callM, int1F, consA, nilA, modF, intF, setV]
    rw [seqM_nx hd]
    have q6 : mulC d 48271 = true := by simp [mulC]
    have q7 : mulC 1013 a = true := by simp [mulC]
    refine ⟨(d * 48271 + 1013 * a) % 2147483647 / 13 % many, [], a, ?_, Int.emod_nonneg _ (by omega), Int.emod_lt_of_pos _ (by omega), by simp, by omega, by omega⟩
    simp [retM, stm, bin, rd, rdV, varM, constM, mulF, q6, q7, addF, callM, int1F, consA, nilA, modF, fdivF, intF, hm, hm2, retV, outG, outV, finA, isBx, pinned, unpin]
end DL
end

section
set_option Elab.async false
set_option linter.all false
set_option maxRecDepth 100000
set_option autoImplicit false
set_option maxHeartbeats 4000000
namespace DL
open PySem PySem.Spec PyProof.Rows L2
def lawL (A B : Str) : D := .list [.tuple [.tuple [.str A], .int 0], .tuple [.tuple [.str B], .int 1], .tuple [.tuple [.str A, .str B], .int 2]]
def bodyT : Bool := match gT_Picture___init__ [.cmp "Picture" none [], .val (lawL "a" "b")] with
  | .ok (.f .none) (.cmp c none fds :: _) => isTru (gT__law_first_right [.val (.str "a"), .val (.str "b"), .val (ins c fds)]) && isTru (gT__law_second_right [.val (ins c fds)])
  | _ => false
theorem bodyT_ok : bodyT = true := by decide +kernel
end DL
end

section
set_option Elab.async false
set_option linter.all false
set_option maxRecDepth 100000
set_option autoImplicit false
set_option maxHeartbeats 4000000
/-! words, their test, their order -/
namespace DL
open PySem PySem.Spec PyProof.Rows L2
def abc : Str := "abcdefghijklmnopqrstuvwxyz"
theorem abc_codes : abc.cps.toList = List.range' 97 26 := by decide +kernel
theorem mem_abc {x : Nat} (h : 97 ≤ x ∧ x ≤ 122) : x ∈ abc.cps.toList := by
  rw [abc_codes, List.mem_range']
  exact ⟨x - 97, by omega, by omega⟩
theorem big : 1000000 ≤ sizeLine := by decide
theorem comp_pure (F : D → D) {v : Nat} {te : Gam → R D} (Γ : Gam) (hv : v < Γ.length) (hu : Γ[v]? = some .un) : ∀ (ds acc : List D), (∀ d ∈ ds, te (Γ.set v (.val d)) = .ok (F d) (Γ.set v (.val d))) → acc.length + ds.length < sizeLine →
    compGo (tgN v) yesM te [v] none ds Γ acc = .ok (acc ++ ds.map F) Γ
  | [], acc, _, _ => by simp [compGo]
  | d :: ds, acc, h, hl => by
    have h1 := h d (by simp)
    have hw : wipeG (Γ.set v (.val d)) [v] = Γ := by
      simp only [wipeG, List.set_set]
      exact List.ext_getElem? fun i => by
        rw [List.getElem?_set]
        split
        · rename_i e
          subst e
          rw [hu]
        · rfl
    simp only [List.length_cons] at hl
    simp only [compGo, guardB_none, if_true, tgN, if_pos hv, yesM, R.bind_ok, h1, hw]
    rw [if_pos (by omega), comp_pure F Γ hv hu ds (acc ++ [F d]) (fun e he => h e (by simp [he])) (by simp; omega)]
    simp
theorem compM_pure (F : D → D) {v : Nat} {mi : Gam → R Src} {te : Gam → R D} {Γ Γ1 : Gam} {ds : List D} (hs : mi Γ = .ok ⟨ds, none⟩ Γ1) (hv : v < Γ1.length) (h : ∀ d ∈ ds, te (Γ1.set v (.val d)) = .ok (F d) (Γ1.set v (.val d))) (hl : ds.length < sizeLine) :
    compM mi (tgN v) yesM te [v] [v] Γ = .ok (.n (.ol (ds.map F))) (Γ1.set v (keepV Γ1[v]?)) := by
  have hc := comp_pure F (Γ1.set v .un) (te := te) (v := v) (by simpa using hv) (by simp [hv]) ds [] (fun d hd => by
    rw [List.set_set]
    exact h d hd) (by simpa using hl)
  unfold compM
  rw [hs]
  have e : ([v].all (fun t => decide (t ∈ [v])) && brOk none [v]) = true := by simp [brOk]
  simp only [R.bind_ok]
  rw [if_pos e]
  have ew : wipeG Γ1 [v] = Γ1.set v .un := rfl
  rw [ew, hc]
  have : ds.length ≤ sizeLine := by omega
  simp [compEnd, this, restG]
theorem boolsOf_true {α : Type} (l : List α) : boolsOf (l.map fun _ => (.bool true : D)) = some (l.map fun _ => true) := by
  induction l with
  | nil => rfl
  | cons a l ih => simp [boolsOf, ih]
theorem is_word_ok {s : Str} (h : Word s) : g_is_word [.val (.str s)] = .ok (.f (.bool true)) [.val (.str s)] := by
  have hl := h.len
  have hb := big
  have e : compM (srcZ (varM 0)) (tgN 1) yesM (fzL (bin (inF false) (varM 1) (constM (.str "abcdefghijklmnopqrstuvwxyz")))) [1] [1] [.val (.str s), .un] = .ok (.n (.ol ((signsD s).map fun _ => .bool true))) [.val (.str s), .un] :=
    compM_pure (fun _ => .bool true) (Γ1 := [.val (.str s), .un]) rfl (by simp) (fun d hd => by
      simp only [signsD, List.mem_map] at hd
      obtain ⟨c, hc, rfl⟩ := hd
      have hm := mem_abc (h.let_ c hc)
      have hs : signOf ⟨#[c]⟩ = some c := rfl
      have hm2 : (decide (c ∈ (Str.cps "abcdefghijklmnopqrstuvwxyz").toList)) = true := decide_eq_true hm
      simp [fzL, bin, rd, varM, rdV, constM, inF, viewD, hs, fzV]
      simpa using hm2) (by simp [signsD]; simp at hl; omega)
  have hlen : s.length = s.cps.toList.length := rfl
  have hz : s.length ≤ sizeLine := by omega
  have q1 : (1 : Int) ≤ (s.length : Int) := by omega
  have q2 : (s.length : Int) ≤ 8 := by omega
  have d1 : decide ((1 : Int) ≤ (s.length : Int)) = true := decide_eq_true q1
  have d2 : decide ((s.length : Int) ≤ 8) = true := decide_eq_true q2
  have a1 : isTyM .str (varM 0) [.val (.str s), .un] = .ok (.f (.bool true)) [.val (.str s), .un] := rfl
  have a2 : chainM leF leF (constM (.int 1)) (callM lenF (consA (varM 0) nilA)) (constM (.int 8)) [.val (.str s), .un] = .ok (.f (.bool true)) [.val (.str s), .un] := by
    have l1 : callM lenF (consA (varM 0) nilA) [.val (.str s), .un] = .ok (.f (.int (s.length : Int))) [.val (.str s), .un] := by
      simp [callM, consA, rd, varM, rdV, nilA, lenF, viewD, hz]
    simp only [chainM, constM, rd, rdV, R.bind_ok, l1, leF, intF_ii, yes2_eq, if_true, d1, d2]
  have a3 : callM allF (consA (compM (srcZ (varM 0)) (tgN 1) yesM (fzL (bin (inF false) (varM 1) (constM (.str "abcdefghijklmnopqrstuvwxyz")))) [1] [1]) nilA) [.val (.str s), .un] = .ok (.f (.bool true)) [.val (.str s), .un] := by
    unfold callM consA rd
    rw [e]
    simp only [R.bind_ok, rdV, fldD, nilA, allF, viewD]
    rw [boolsOf_true]
    simp
  unfold g_is_word gOf
  rw [if_pos ⟨rfl, rfl⟩]
  have e0 : startA 2 [.val (.str s)] = [.val (.str s), .un] := rfl
  rw [e0]
  unfold m_is_word
  simp only [retM, andM, rd, a1, a2, R.bind_ok, rdV, if_true, a3, stm_ok]
  rfl
/-! sort of words -/
theorem dle_str (a b : Str) : dLe (.str a) (.str b) = !decide (b.cps.toList < a.cps.toList) := by
  have e : listOrd itemOrd = listOrd itemOrd := rfl
  unfold dLe PySem.W.dataLe PySem.W.sortLe
  simp only [cond_false, PySem.W.keyToks]
  congr 1
  show PyProof.Rows.lexLt itemOrd [.inr b.cps.toList] [.inr a.cps.toList] = _
  rw [lex_cons]
  have h1 : ∀ x y : List Nat, itemOrd.blt (Sum.inr x) (Sum.inr y) = decide (x < y) := fun _ _ => rfl
  rw [h1, h1]
  simp [PyProof.Rows.lexLt]
theorem okS_strs (ws : List Str) (h : ws.length ≤ sizeLine) : okS (ws.map .str) = true := by
  unfold okS
  simp only [List.all_map, Function.comp_def, List.length_map, Bool.and_eq_true, Bool.or_eq_true, List.all_eq_true, decide_eq_true_eq, PySem.W.alike, PyData.plain, PyData.depth]
  simp [h]
theorem srt_strs (ws : List Str) (hn : ws.Nodup) : ∃ vs : List Str, srt dLe (ws.map .str) = vs.map .str ∧ vs.length = ws.length ∧ (∀ v ∈ vs, v ∈ ws) ∧ vs.Pairwise (fun a b => a.cps.toList < b.cps.toList) := by
  let le : Str → Str → Bool := fun a b => !decide (b.cps.toList < a.cps.toList)
  have e : srt dLe (ws.map .str) = (srt le ws).map .str := srt_mp (le := le) (le' := dLe) PyData.str dle_str ws
  have tr : ∀ a b c : Str, le a b = true → le b c = true → le a c = true := by
    intro a b c h1 h2
    simp only [le, Bool.not_eq_true', decide_eq_false_iff_not] at *
    intro h3
    rcases Std.lt_trichotomy b.cps.toList a.cps.toList with q | q | q
    · exact h1 q
    · rw [q] at h2; exact h2 h3
    · exact h2 (List.lt_trans h3 q)
  have tot : ∀ a b : Str, (le a b || le b a) = true := by
    intro a b
    simp only [le, Bool.or_eq_true, Bool.not_eq_true', decide_eq_false_iff_not]
    by_cases h : b.cps.toList < a.cps.toList
    · exact .inr (List.lt_asymm h)
    · exact .inl h
  have pm : (ws.mergeSort le).Perm ws := List.mergeSort_perm ws le
  have pw := List.pairwise_mergeSort tr tot ws
  refine ⟨srt le ws, e, ?_, ?_, ?_⟩
  · rw [srt_eq]; exact pm.length_eq
  · intro v hv
    rw [srt_eq] at hv
    exact pm.mem_iff.mp hv
  · rw [srt_eq]
    have nd : (ws.mergeSort le).Nodup := pm.nodup_iff.mpr hn
    refine (pw.and nd).imp ?_
    rintro a b ⟨h1, h2⟩
    simp only [le, Bool.not_eq_true', decide_eq_false_iff_not] at h1
    rcases Std.lt_trichotomy a.cps.toList b.cps.toList with q | q | q
    · exact q
    · exact absurd (str_ext q) h2
    · exact absurd q h1
end DL
end

section
set_option Elab.async false
set_option linter.all false
set_option maxRecDepth 100000
set_option autoImplicit false
set_option maxHeartbeats 4000000
/-! the names that a law draws -/
namespace DL
open PySem PySem.Spec PyProof.Rows L2
def Bx (n : Int) (s : Slot) (pin : Option Addr) : Prop := ∃ cells left at_, s = .box 0 pin (rngD cells left at_) ∧ cells.length ≤ 1000 ∧ left.length < 1000 ∧ 0 ≤ at_ ∧ at_ ≤ n
theorem Bx.up {n n' : Int} {s : Slot} {pin : Option Addr} (h : Bx n s pin) (e : n ≤ n') : Bx n' s pin := by
  obtain ⟨c, l, a, rfl, h1, h2, h3, h4⟩ := h
  exact ⟨c, l, a, rfl, h1, h2, h3, by omega⟩
theorem draw {m : Gam → R Val} {many n : Int} {pin : Option Addr} {s : Slot} {rest : List Slot} (hb : Bx n s pin) (hn : n < 1000000000) (h1 : 1 ≤ many) (h2 : many < 1000000) (hm : rd m (s :: rest) = .ok (.f (.int many)) (s :: rest)) :
    ∃ r s', callM (callG g__law_next) (consA (varM 0) (consA m nilA)) (s :: rest) = .ok (.f (.int r)) (s' :: rest) ∧ Bx (n + 1) s' pin ∧ 0 ≤ r ∧ r < many := by
  obtain ⟨cells, left, at_, rfl, c1, c2, c3, c4⟩ := hb
  obtain ⟨r, left', at', e, e1, e2, e3, e4, e5⟩ := next_spec cells left at_ many c2 h1 h2 c3 (by omega) c1
  refine ⟨r, .box 0 pin (rngD cells left' at'), ?_, ⟨cells, left', at', rfl, c1, by omega, by omega, by omega⟩, e1, e2⟩
  have hv : rd (varM 0) (.box 0 pin (rngD cells left at_) :: rest) = .ok (.b 0) (.box 0 pin (rngD cells left at_) :: rest) := rfl
  simp only [callM, consA, hv, hm, R.bind_ok, nilA, callG, headBx, List.getElem?_cons_zero, isBx, if_true, callX, argsF, fzV, List.map_cons, List.map_nil, unpin]
  rw [e]
  rfl
def Low (s : Str) : Prop := ∀ x ∈ s.cps.toList, 97 ≤ x ∧ x ≤ 122
theorem letter {Γ : Gam} {r : Int} (h0 : 0 ≤ r) (h1 : r < 26) : ixF Γ (.f (.str abc)) (.f (.int r)) = .ok (.f (.str ⟨#[97 + r.toNat]⟩)) Γ := by
  have e : atI abc.cps.toList r = some (97 + r.toNat) := by
    obtain ⟨k, rfl⟩ : ∃ k : Nat, r = k := ⟨r.toNat, by omega⟩
    apply atI_nat
    rw [abc_codes, List.getElem?_range']
    · simp
    · omega
  have hz : abc.length ≤ sizeLine := by decide
  simp [ixF, viewD, e, hz]
theorem app_codes (a b : Str) : (a ++ b).cps.toList = a.cps.toList ++ b.cps.toList := by
  show (a.cps ++ b.cps).toList = _
  simp
theorem len_codes (a : Str) : a.length = a.cps.toList.length := rfl
def rest0 (many : Int) (stem : Str) (x4 : Slot) : List Slot := [.val (.int many), .val (.str abc), .val (.str stem), x4, .un, .un, .un, .un]
theorem stem_loop (many : Int) : ∀ (ds : List D) (n : Int) (s : Slot) (stem : Str) (x4 : Slot), Bx n s (some 0) → n + ds.length < 1000000 → Low stem → stem.cps.toList.length + ds.length ≤ 8 →
    ∃ s' stem' x4', forGo (tgN 4) (setM 3 (bin addF (varM 3) (bin ixF (varM 2) (callM (callG g__law_next) (consA (varM 0) (consA (constM (.int 26)) nilA)))))) ds (s :: rest0 many stem x4) = .nx (s' :: rest0 many stem' x4') ∧ Bx (n + ds.length) s' (some 0) ∧ Low stem' ∧ stem'.cps.toList.length = stem.cps.toList.length + ds.length
  | [], n, s, stem, x4, hb, hn, hl, hs => ⟨s, stem, x4, rfl, by simpa using hb, hl, by simp⟩
  | d :: ds, n, s, stem, x4, hb, hn, hl, hs => by
    simp only [List.length_cons] at hn hs
    obtain ⟨r, s1, e, b1, r0, r1⟩ := draw (m := constM (.int 26)) (rest := rest0 many stem (.val d)) hb (by omega) (by decide : (1 : Int) ≤ 26) (by decide) rfl
    have hle := letter (Γ := s1 :: rest0 many stem (.val d)) r0 r1
    have q : forGo (tgN 4) (setM 3 (bin addF (varM 3) (bin ixF (varM 2) (callM (callG g__law_next) (consA (varM 0) (consA (constM (.int 26)) nilA)))))) (d :: ds) (s :: rest0 many stem x4) =
        forGo (tgN 4) (setM 3 (bin addF (varM 3) (bin ixF (varM 2) (callM (callG g__law_next) (consA (varM 0) (consA (constM (.int 26)) nilA)))))) ds (s1 :: rest0 many (stem ++ ⟨#[97 + r.toNat]⟩) (.val d)) := by
      have t : tgN 4 d (s :: rest0 many stem x4) = some (s :: rest0 many stem (.val d)) := rfl
      have b : setM 3 (bin addF (varM 3) (bin ixF (varM 2) (callM (callG g__law_next) (consA (varM 0) (consA (constM (.int 26)) nilA))))) (s :: rest0 many stem (.val d)) = .nx (s1 :: rest0 many (stem ++ ⟨#[97 + r.toNat]⟩) (.val d)) := by
        have v3 : varM 3 (s :: rest0 many stem (.val d)) = .ok (.f (.str stem)) (s :: rest0 many stem (.val d)) := rfl
        have v2 : varM 2 (s :: rest0 many stem (.val d)) = .ok (.f (.str abc)) (s :: rest0 many stem (.val d)) := rfl
        have hsz : stem.length + (⟨#[97 + r.toNat]⟩ : Str).length ≤ sizeLine := by
          have hb := big
          have : (⟨#[97 + r.toNat]⟩ : Str).length = 1 := rfl
          rw [len_codes stem, this]
          omega
        simp only [setM, bin, rd, v3, v2, R.bind_ok, rdV, e, hle, addF, if_pos hsz, stm_ok]
        rfl
      rw [forGo]
      simp only [t, b]
    rw [q]
    have hl2 : Low (stem ++ ⟨#[97 + r.toNat]⟩) := by
      intro x hx
      rw [app_codes] at hx
      simp only [List.mem_append] at hx
      rcases hx with hx | hx
      · exact hl x hx
      · simp at hx
        omega
    have hlen : (stem ++ ⟨#[97 + r.toNat]⟩ : Str).cps.toList.length = stem.cps.toList.length + 1 := by
      rw [app_codes]
      simp
    obtain ⟨s2, stem2, x42, q1, q2, q3, q4⟩ := stem_loop many ds (n + 1) s1 (stem ++ ⟨#[97 + r.toNat]⟩) (.val d) b1 (by omega) hl2 (by omega)
    refine ⟨s2, stem2, x42, q1, ?_, q3, ?_⟩
    · refine q2.up ?_
      simp only [List.length_cons]
      omega
    · rw [q4, hlen]
      simp only [List.length_cons]
      omega
end DL
end

section
set_option Elab.async false
set_option linter.all false
set_option maxRecDepth 100000
set_option autoImplicit false
set_option maxHeartbeats 4000000
/-! the names that a law draws: the whole function -/
namespace DL
open PySem PySem.Spec PyProof.Rows L2
theorem ltF_int {Γ : Gam} (a b : Int) : ltF Γ (.f (.int a)) (.f (.int b)) = .ok (.f (.bool (decide (a < b)))) Γ := by
  have h : PySem.W.dataLt (.int a) (.int b) = decide (a < b) := by
    simp only [PySem.W.dataLt, PySem.W.keyToks]
    rw [lex_cons]
    have h1 : ∀ x y : Int, itemOrd.blt (Sum.inl x) (Sum.inl y) = decide (x < y) := fun _ _ => rfl
    rw [h1, h1]
    simp [PyProof.Rows.lexLt]
  have h2 : okL (.int a) (.int b) = true := by simp [okL, PySem.W.alike, PyData.plain, PyData.depth]
  simp [ltF, viewD, h, h2]
theorem cut_lo (z : Str) (k : Nat) : (cutS z none (some (k : Int))).cps.toList = z.cps.toList.take k := by
  have hz : z.cps.size = z.cps.toList.length := rfl
  simp only [cutS, HT.sIx_none, HT.sIx_nat, List.drop_zero, Nat.sub_zero, List.toList_toArray, len_codes]
  by_cases h : k ≤ z.cps.toList.length
  · rw [Nat.min_eq_left h]
  · rw [Nat.min_eq_right (by omega), List.take_of_length_le (Nat.le_refl _), List.take_of_length_le (by omega)]
theorem cut_hi (z : Str) (k : Nat) : (cutS z (some (k : Int)) none).cps.toList = z.cps.toList.drop k := by
  simp only [cutS, HT.sIx_none, HT.sIx_nat, List.toList_toArray, len_codes]
  by_cases h : k ≤ z.cps.toList.length
  · rw [Nat.min_eq_left h, List.take_of_length_le (by simp)]
  · rw [Nat.min_eq_right (by omega)]
    rw [List.drop_of_length_le (Nat.le_refl _), List.drop_of_length_le (by omega)]
    simp
theorem mul8 (f : Nat) : Txt.mul ⟨#[f]⟩ 8 = ⟨#[f, f, f, f, f, f, f, f]⟩ := by
  rfl
theorem mulOk8 (f : Nat) : mulOkB ⟨#[f]⟩ 8 = true := by
  rfl
theorem nodup_range {f : Nat → Str} {n : Nat} (h : ∀ i j, i < j → j < n → f i ≠ f j) : ((List.range n).map f).Nodup := by
  rw [List.Nodup, List.pairwise_map, List.pairwise_iff_getElem]
  intro i j hi hj hij
  simp only [List.getElem_range]
  simp only [List.length_range] at hj
  exact h i j hij hj
theorem range_map (F : D → D) (f : Nat → Str) (n : Nat) (h : ∀ k : Nat, k < n → F (.int (k : Int)) = .str (f k)) : (rangeD 0 n).map F = ((List.range n).map f).map .str := by
  unfold rangeD
  rw [List.map_map, List.map_map]
  apply List.map_congr_left
  intro k hk
  have := h k (List.mem_range.mp hk)
  simpa using this
def strF (f : Nat → Str) : D → D
  | .int k => .str (f k.toNat)
  | d => d
/-- what the last part of the drawing of names gives -/
structure NmRes (many : Int) (ws : List Str) : Prop where
  len : (ws.length : Int) = many
  wd : ∀ w ∈ ws, Word w
  nd : ws.Nodup
theorem cut_res {w8 : Str} {m : Nat} (hm : m ≤ 8) (hl : Low w8) (h8 : w8.cps.toList.length = 8) : NmRes m ((List.range m).map fun k : Nat => cutS w8 (some (k : Int)) none) := by
  refine ⟨by simp, ?_, nodup_range ?_⟩
  · intro w hw
    simp only [List.mem_map, List.mem_range] at hw
    obtain ⟨k, hk, rfl⟩ := hw
    refine ⟨?_, fun x hx => ?_⟩
    · rw [cut_hi, List.length_drop]
      omega
    · rw [cut_hi] at hx
      exact hl x (List.mem_of_mem_drop hx)
  · intro i j hij hj e
    have := congrArg (fun z : Str => z.cps.toList.length) e
    simp only [cut_hi, List.length_drop] at this
    omega
theorem cut_res2 {w8 : Str} {m : Nat} (hm : m ≤ 8) (hl : Low w8) (h8 : w8.cps.toList.length = 8) : NmRes m ((List.range m).map fun k : Nat => cutS w8 none (some ((k + 9 - m : Nat) : Int))) := by
  refine ⟨by simp, ?_, nodup_range ?_⟩
  · intro w hw
    simp only [List.mem_map, List.mem_range] at hw
    obtain ⟨k, hk, rfl⟩ := hw
    refine ⟨?_, fun x hx => ?_⟩
    · rw [cut_lo, List.length_take]
      omega
    · rw [cut_lo] at hx
      exact hl x (List.mem_of_mem_take hx)
  · intro i j hij hj e
    have := congrArg (fun z : Str => z.cps.toList.length) e
    simp only [cut_lo, List.length_take] at this
    omega
def oneL (r : Int) : Str := ⟨#[97 + r.toNat]⟩
theorem mid_res {stem : Str} {m : Nat} {at_ : Nat} {first by_ : Int} (hm : m ≤ 8) (hl : Low stem) (h7 : stem.cps.toList.length ≤ 7) (ha : at_ ≤ stem.cps.toList.length) (hf : 0 ≤ first ∧ first < 26) (hb : by_ = 1 ∨ by_ = 3 ∨ by_ = 5) :
    NmRes m ((List.range m).map fun k : Nat => cutS stem none (some (at_ : Int)) ++ oneL ((first + by_ * (k : Int)) % 26) ++ cutS stem (some (at_ : Int)) none) := by
  have hc : ∀ k : Nat, (cutS stem none (some (at_ : Int)) ++ oneL ((first + by_ * (k : Int)) % 26) ++ cutS stem (some (at_ : Int)) none).cps.toList = stem.cps.toList.take at_ ++ [97 + ((first + by_ * (k : Int)) % 26).toNat] ++ stem.cps.toList.drop at_ := by
    intro k
    rw [app_codes, app_codes, cut_lo, cut_hi]
    rfl
  refine ⟨by simp, ?_, nodup_range ?_⟩
  · intro w hw
    simp only [List.mem_map, List.mem_range] at hw
    obtain ⟨k, hk, rfl⟩ := hw
    refine ⟨?_, fun x hx => ?_⟩
    · rw [hc, List.length_append, List.length_append, List.length_take, List.length_drop]
      simp only [List.length_cons, List.length_nil]
      omega
    · rw [hc] at hx
      simp only [List.mem_append, List.mem_cons, List.not_mem_nil, or_false] at hx
      rcases hx with (hx | hx) | hx
      · exact hl x (List.mem_of_mem_take hx)
      · omega
      · exact hl x (List.mem_of_mem_drop hx)
  · intro i j hij hj e
    have := congrArg (fun z : Str => z.cps.toList) e
    simp only [hc, List.append_assoc, List.append_cancel_left_eq, List.cons_append, List.nil_append, List.cons.injEq, and_true] at this
    rcases hb with rfl | rfl | rfl <;> omega
theorem by_val {Γ : Gam} {r : Int} (h0 : 0 ≤ r) (h1 : r < 6) : ixF Γ (.f (.list [.int 1, .int 3, .int 5, .int 7, .int 9, .int 11])) (.f (.int r)) = .ok (.f (.int (2 * r + 1))) Γ := by
  have : r = 0 ∨ r = 1 ∨ r = 2 ∨ r = 3 ∨ r = 4 ∨ r = 5 := by omega
  rcases this with rfl | rfl | rfl | rfl | rfl | rfl <;> rfl
theorem rg_ok {m : Gam → R Val} {Γ Γ2 : Gam} {k : Int} (h : m Γ = .ok (.f (.int k)) Γ2) (h0 : 0 ≤ k) (h1 : k ≤ 1000) : rg1M (consA m nilA) Γ = .ok ⟨rangeD 0 k.toNat, none⟩ Γ2 := by
  unfold rg1M consA rd
  rw [h]
  simp only [R.bind_ok, rdV, nilA]
  split
  · rfl
  · rename_i hn
    refine absurd (And.intro ?_ ?_) hn <;> omega
theorem rd_f {m : Gam → R Val} {Γ : Gam} {d : D} (h : m Γ = .ok (.f d) Γ) : rd m Γ = .ok (.f d) Γ := by
  unfold rd
  rw [h]
  rfl
theorem bin_ok {f : Gam → Val → Val → R Val} {ma mb : Gam → R Val} {Γ : Gam} {d e : D} {r : R Val} (ha : ma Γ = .ok (.f d) Γ) (hb : mb Γ = .ok (.f e) Γ) (hf : f Γ (.f d) (.f e) = r) : bin f ma mb Γ = r := by
  unfold bin
  rw [rd_f ha]
  show (rd mb Γ).bind _ = r
  rw [rd_f hb]
  exact hf
theorem call1_ok {c : Gam → List Val → R Val} {m : Gam → R Val} {Γ : Gam} {d : D} {r : R Val} (h : m Γ = .ok (.f d) Γ) (hc : c Γ [.f d] = r) : callM c (consA m nilA) Γ = r := by
  unfold callM consA
  rw [rd_f h]
  exact hc
def rest1 (many : Int) (stem : Str) (x4 : Slot) (a f b : Int) (w : Slot) : List Slot := [.val (.int many), .val (.str abc), .val (.str stem), x4, .val (.int a), .val (.int f), .val (.int b), w]
section
variable {s1 s2 s3 s4 x4 : Slot} {m : Nat} {stem w8 : Str} {a f r6 : Int}
theorem names_h2 (hsz : 1000000 ≤ sizeLine) (d2 : callM (callG g__law_next) (consA (varM 0) (consA (bin addF (callM lenF (consA (varM 3) nilA)) (constM (.int 1))) nilA)) (s1 :: rest0 m stem x4) = .ok (.f (.int a)) (s2 :: rest0 m stem x4)) (d3 : callM (callG g__law_next) (consA (varM 0) (consA (constM (.int 26)) nilA)) (s2 :: rest0 m stem x4) = .ok (.f (.int f)) (s3 :: rest0 m stem x4)) (d4 : callM (callG g__law_next) (consA (varM 0) (consA (constM (.int 6)) nilA)) (s3 :: rest0 m stem x4) = .ok (.f (.int r6)) (s4 :: rest0 m stem x4)) (l6 : 0 ≤ r6) (u6 : r6 < 6) :
    asgM (tupM (consD (callM (callG g__law_next) (consA (varM 0) (consA (bin addF (callM lenF (consA (varM 3) nilA)) (constM (.int 1))) nilA))) (consD (callM (callG g__law_next) (consA (varM 0) (consA (constM (.int 26)) nilA))) (consD (bin ixF (lstM (consD (constM (.int 1)) (consD (constM (.int 3)) (consD (constM (.int 5)) (consD (constM (.int 7)) (consD (constM (.int 9)) (consD (constM (.int 11)) nilD))))))) (callM (callG g__law_next) (consA (varM 0) (consA (constM (.int 6)) nilA)))) nilD)))) (tgT 3 (tgCons (tgN 5) (tgCons (tgN 6) (tgCons (tgN 7) tgNil)))) (s1 :: rest0 m stem x4) = .nx (s4 :: rest1 m stem x4 a f (2 * r6 + 1) .un) := by
  have hl : rd (lstM (consD (constM (.int 1)) (consD (constM (.int 3)) (consD (constM (.int 5)) (consD (constM (.int 7)) (consD (constM (.int 9)) (consD (constM (.int 11)) nilD))))))) (s3 :: rest0 m stem x4) = .ok (.f (.list [.int 1, .int 3, .int 5, .int 7, .int 9, .int 11])) (s3 :: rest0 m stem x4) := rfl
  have h3 : (3 : Nat) ≤ sizeLine := by omega
  have hb3 : bin ixF (lstM (consD (constM (.int 1)) (consD (constM (.int 3)) (consD (constM (.int 5)) (consD (constM (.int 7)) (consD (constM (.int 9)) (consD (constM (.int 11)) nilD))))))) (callM (callG g__law_next) (consA (varM 0) (consA (constM (.int 6)) nilA))) (s3 :: rest0 m stem x4) = .ok (.f (.int (2 * r6 + 1))) (s4 :: rest0 m stem x4) := by
    have hr : rd (callM (callG g__law_next) (consA (varM 0) (consA (constM (.int 6)) nilA))) (s3 :: rest0 m stem x4) = .ok (.f (.int r6)) (s4 :: rest0 m stem x4) := by
      simp only [rd, d4, R.bind_ok, rdV]
    simp only [bin, hl, R.bind_ok, hr]
    exact by_val l6 u6
  have hd1 : fzL (callM (callG g__law_next) (consA (varM 0) (consA (bin addF (callM lenF (consA (varM 3) nilA)) (constM (.int 1))) nilA))) (s1 :: rest0 m stem x4) = .ok (.int a) (s2 :: rest0 m stem x4) := by
    simp only [fzL, d2, R.bind_ok, fzV]
  have hd2 : fzL (callM (callG g__law_next) (consA (varM 0) (consA (constM (.int 26)) nilA))) (s2 :: rest0 m stem x4) = .ok (.int f) (s3 :: rest0 m stem x4) := by
    simp only [fzL, d3, R.bind_ok, fzV]
  have hd3 : fzL (bin ixF (lstM (consD (constM (.int 1)) (consD (constM (.int 3)) (consD (constM (.int 5)) (consD (constM (.int 7)) (consD (constM (.int 9)) (consD (constM (.int 11)) nilD))))))) (callM (callG g__law_next) (consA (varM 0) (consA (constM (.int 6)) nilA)))) (s3 :: rest0 m stem x4) = .ok (.int (2 * r6 + 1)) (s4 :: rest0 m stem x4) := by
    simp only [fzL, hb3, R.bind_ok, fzV]
  have ht : tupM (consD (callM (callG g__law_next) (consA (varM 0) (consA (bin addF (callM lenF (consA (varM 3) nilA)) (constM (.int 1))) nilA))) (consD (callM (callG g__law_next) (consA (varM 0) (consA (constM (.int 26)) nilA))) (consD (bin ixF (lstM (consD (constM (.int 1)) (consD (constM (.int 3)) (consD (constM (.int 5)) (consD (constM (.int 7)) (consD (constM (.int 9)) (consD (constM (.int 11)) nilD))))))) (callM (callG g__law_next) (consA (varM 0) (consA (constM (.int 6)) nilA)))) nilD))) (s1 :: rest0 m stem x4) = .ok (.f (.tuple [.int a, .int f, .int (2 * r6 + 1)])) (s4 :: rest0 m stem x4) := by
    simp only [tupM, consD, nilD, hd1, hd2, hd3, R.bind_ok, List.length_cons, List.length_nil]
    rw [if_pos h3]
  rw [asgM]
  rw [fzL]
  simp only [ht, R.bind_ok, fzV, stm_ok]
  rfl
theorem names_h3 {fl : Nat} (hsz : 1000000 ≤ sizeLine) (hL : stem.cps.toList.length ≤ 7) (hw : ixF (s4 :: rest1 m stem x4 a f (2 * r6 + 1) .un) (.f (.str abc)) (.f (.int f)) = .ok (.f (.str ⟨#[fl]⟩)) (s4 :: rest1 m stem x4 a f (2 * r6 + 1) .un)) (hw8 : cutS (stem ++ ⟨#[fl, fl, fl, fl, fl, fl, fl, fl]⟩) none (some ((8 : Nat) : Int)) = w8) :
    setM 8 (sliceM (bin addF (varM 3) (bin mulF (bin ixF (varM 2) (varM 6)) (constM (.int 8)))) noPart (partM (constM (.int 8)))) (s4 :: rest1 m stem x4 a f (2 * r6 + 1) .un) = .nx (s4 :: rest1 m stem x4 a f (2 * r6 + 1) (.val (.str w8))) := by
  have v2 : varM 2 (s4 :: rest1 m stem x4 a f (2 * r6 + 1) .un) = .ok (.f (.str abc)) (s4 :: rest1 m stem x4 a f (2 * r6 + 1) .un) := rfl
  have v3 : varM 3 (s4 :: rest1 m stem x4 a f (2 * r6 + 1) .un) = .ok (.f (.str stem)) (s4 :: rest1 m stem x4 a f (2 * r6 + 1) .un) := rfl
  have v6 : varM 6 (s4 :: rest1 m stem x4 a f (2 * r6 + 1) .un) = .ok (.f (.int f)) (s4 :: rest1 m stem x4 a f (2 * r6 + 1) .un) := rfl
  have hz1 : stem.length + (⟨#[fl, fl, fl, fl, fl, fl, fl, fl]⟩ : Str).length ≤ sizeLine := by
    have : (⟨#[fl, fl, fl, fl, fl, fl, fl, fl]⟩ : Str).length = 8 := rfl
    rw [this, len_codes]
    omega
  have hz2 : (stem ++ ⟨#[fl, fl, fl, fl, fl, fl, fl, fl]⟩ : Str).length ≤ sizeLine := by
    rw [len_codes, app_codes, List.length_append]
    simp only [List.length_cons, List.length_nil]
    omega
  simp only [setM, sliceM, rd, bin, v3, v2, v6, R.bind_ok, rdV, hw, constM, mulF, mulOk8, if_true, mul8, addF, if_pos hz1, noPart, partM, slF, viewD, if_pos hz2, stm_ok, setV]
  have : cutS (stem ++ ⟨#[fl, fl, fl, fl, fl, fl, fl, fl]⟩) none (some 8) = w8 := hw8
  rw [this]
  rfl
theorem names_src (hm : 1 ≤ m ∧ m ≤ 8) :
    rg1M (consA (varM 1) nilA) (s4 :: rest1 m stem x4 a f (2 * r6 + 1) (.val (.str w8))) = .ok ⟨rangeD 0 m, none⟩ (s4 :: rest1 m stem x4 a f (2 * r6 + 1) (.val (.str w8))) := by
  exact rg_ok (k := (m : Int)) rfl (by omega) (by omega)
theorem int_mem : ∀ d ∈ rangeD 0 m, ∃ k : Nat, k < m ∧ d = .int (k : Int) := by
  intro d hd
  simp only [rangeD, List.mem_map, List.mem_range] at hd
  obtain ⟨k, hk, rfl⟩ := hd
  exact ⟨k, hk, by simp⟩
theorem names_A (hm : 1 ≤ m ∧ m ≤ 8) (h8low : Low w8) (h8l : w8.cps.toList.length = 8) (w8z : w8.length ≤ sizeLine) (h6 : 3 ≤ r6) (hrl : (rangeD 0 m).length < sizeLine) :
    ∃ ws x, NmRes (m : Int) ws ∧ compM (rg1M (consA (varM 1) nilA)) (tgN 4) yesM (fzL (ifM (testM (bin gtF (varM 7) (constM (.int 7)))) (sliceM (varM 8) (partM (varM 4)) noPart) (sliceM (varM 8) noPart (partM (bin subF (bin addF (varM 4) (constM (.int 9))) (varM 1)))))) [4] [4] (s4 :: rest1 m stem x4 a f (2 * r6 + 1) (.val (.str w8))) = .ok (.n (.ol (ws.map .str))) (s4 :: (rest1 m stem x4 a f (2 * r6 + 1) (.val (.str w8))).set 3 x) := by
  have hsrc := names_src (s4 := s4) (x4 := x4) (stem := stem) (a := a) (f := f) (r6 := r6) (w8 := w8) hm
  have hmem := int_mem (m := m)
  by_cases h7 : 4 ≤ r6
  · refine ⟨_, keepV (some x4), cut_res hm.2 h8low h8l, ?_⟩
    rw [compM_pure (strF fun k => cutS w8 (some (k : Int)) none) hsrc (by simp [rest1]) ?_ hrl, range_map _ (fun k => cutS w8 (some (k : Int)) none)]
    · rfl
    · intro k hk
      simp [strF]
    · intro d hd
      obtain ⟨k, hk, rfl⟩ := hmem d hd
      have g : (s4 :: rest1 m stem x4 a f (2 * r6 + 1) (.val (.str w8))).set 4 (.val (.int (k : Int))) = s4 :: rest1 m stem (.val (.int (k : Int))) a f (2 * r6 + 1) (.val (.str w8)) := rfl
      rw [g]
      have v7 : varM 7 (s4 :: rest1 m stem (.val (.int (k : Int))) a f (2 * r6 + 1) (.val (.str w8))) = .ok (.f (.int (2 * r6 + 1))) (s4 :: rest1 m stem (.val (.int (k : Int))) a f (2 * r6 + 1) (.val (.str w8))) := rfl
      have v8 : varM 8 (s4 :: rest1 m stem (.val (.int (k : Int))) a f (2 * r6 + 1) (.val (.str w8))) = .ok (.f (.str w8)) (s4 :: rest1 m stem (.val (.int (k : Int))) a f (2 * r6 + 1) (.val (.str w8))) := rfl
      have v4 : varM 4 (s4 :: rest1 m stem (.val (.int (k : Int))) a f (2 * r6 + 1) (.val (.str w8))) = .ok (.f (.int (k : Int))) (s4 :: rest1 m stem (.val (.int (k : Int))) a f (2 * r6 + 1) (.val (.str w8))) := rfl
      have q7 : (7 : Int) < 2 * r6 + 1 := by omega
      have q7 := decide_eq_true q7
      simp only [fzL, ifM, testM, bin, rd, v7, v8, v4, constM, R.bind_ok, rdV, gtF, intF_ii, yes2_eq, if_true, q7, sliceM, partM, noPart, slF, viewD, if_pos w8z, fzV, strF, Int.toNat_natCast]
  · refine ⟨_, keepV (some x4), cut_res2 hm.2 h8low h8l, ?_⟩
    rw [compM_pure (strF fun k => cutS w8 none (some ((k + 9 - m : Nat) : Int))) hsrc (by simp [rest1]) ?_ hrl, range_map _ (fun k => cutS w8 none (some ((k + 9 - m : Nat) : Int)))]
    · rfl
    · intro k hk
      simp [strF]
    · intro d hd
      obtain ⟨k, hk, rfl⟩ := hmem d hd
      have g : (s4 :: rest1 m stem x4 a f (2 * r6 + 1) (.val (.str w8))).set 4 (.val (.int (k : Int))) = s4 :: rest1 m stem (.val (.int (k : Int))) a f (2 * r6 + 1) (.val (.str w8)) := rfl
      rw [g]
      have v7 : varM 7 (s4 :: rest1 m stem (.val (.int (k : Int))) a f (2 * r6 + 1) (.val (.str w8))) = .ok (.f (.int (2 * r6 + 1))) (s4 :: rest1 m stem (.val (.int (k : Int))) a f (2 * r6 + 1) (.val (.str w8))) := rfl
      have v8 : varM 8 (s4 :: rest1 m stem (.val (.int (k : Int))) a f (2 * r6 + 1) (.val (.str w8))) = .ok (.f (.str w8)) (s4 :: rest1 m stem (.val (.int (k : Int))) a f (2 * r6 + 1) (.val (.str w8))) := rfl
      have v4 : varM 4 (s4 :: rest1 m stem (.val (.int (k : Int))) a f (2 * r6 + 1) (.val (.str w8))) = .ok (.f (.int (k : Int))) (s4 :: rest1 m stem (.val (.int (k : Int))) a f (2 * r6 + 1) (.val (.str w8))) := rfl
      have v1 : varM 1 (s4 :: rest1 m stem (.val (.int (k : Int))) a f (2 * r6 + 1) (.val (.str w8))) = .ok (.f (.int (m : Int))) (s4 :: rest1 m stem (.val (.int (k : Int))) a f (2 * r6 + 1) (.val (.str w8))) := rfl
      have q7 : ¬ (7 : Int) < 2 * r6 + 1 := by omega
      have q7 := decide_eq_false q7
      have ek : (k : Int) + 9 - (m : Int) = ((k + 9 - m : Nat) : Int) := by omega
      simp only [fzL, ifM, testM, bin, rd, v7, v8, v4, v1, constM, R.bind_ok, rdV, gtF, intF_ii, yes2_eq, if_true, q7, Bool.false_eq_true, if_false, sliceM, partM, noPart, addF, subF, slF, viewD, if_pos w8z, fzV, strF, Int.toNat_natCast, ek]
theorem names_B {at3 : Nat} (hm : 1 ≤ m ∧ m ≤ 8) (hsz : 1000000 ≤ sizeLine) (hL : stem.cps.toList.length ≤ 7) (sz : stem.length ≤ sizeLine) (l6 : 0 ≤ r6) (u6 : r6 < 6) (hrl : (rangeD 0 m).length < sizeLine) :
    compM (rg1M (consA (varM 1) nilA)) (tgN 4) yesM (fzL (bin addF (bin addF (sliceM (varM 3) noPart (partM (varM 5))) (bin ixF (varM 2) (bin modF (callM int1F (consA (bin addF (varM 6) (bin mulF (varM 7) (varM 4))) nilA)) (constM (.int 26))))) (sliceM (varM 3) (partM (varM 5)) noPart))) [4] [4] (s4 :: rest1 m stem x4 at3 f (2 * r6 + 1) (.val (.str w8))) = .ok (.n (.ol (((List.range m).map fun k : Nat => cutS stem none (some (at3 : Int)) ++ oneL ((f + (2 * r6 + 1) * (k : Int)) % 26) ++ cutS stem (some (at3 : Int)) none).map .str))) (s4 :: (rest1 m stem x4 at3 f (2 * r6 + 1) (.val (.str w8))).set 3 (keepV (some x4))) := by
  have hsrc := names_src (s4 := s4) (x4 := x4) (stem := stem) (a := (at3 : Int)) (f := f) (r6 := r6) (w8 := w8) hm
  have hmem := int_mem (m := m)
  rw [compM_pure (strF fun k => cutS stem none (some (at3 : Int)) ++ oneL ((f + (2 * r6 + 1) * (k : Int)) % 26) ++ cutS stem (some (at3 : Int)) none) hsrc (by simp [rest1]) ?_ hrl, range_map _ (fun k : Nat => cutS stem none (some (at3 : Int)) ++ oneL ((f + (2 * r6 + 1) * (k : Int)) % 26) ++ cutS stem (some (at3 : Int)) none)]
  · rfl
  · intro k hk
    simp [strF]
  · intro d hd
    obtain ⟨k, hk, rfl⟩ := hmem d hd
    have g : (s4 :: rest1 m stem x4 at3 f (2 * r6 + 1) (.val (.str w8))).set 4 (.val (.int (k : Int))) = s4 :: rest1 m stem (.val (.int (k : Int))) at3 f (2 * r6 + 1) (.val (.str w8)) := rfl
    rw [g]
    generalize hG : s4 :: rest1 m stem (.val (.int (k : Int))) at3 f (2 * r6 + 1) (.val (.str w8)) = Γ
    have v2 : varM 2 Γ = .ok (.f (.str abc)) Γ := by rw [← hG]; rfl
    have v3 : varM 3 Γ = .ok (.f (.str stem)) Γ := by rw [← hG]; rfl
    have v4 : varM 4 Γ = .ok (.f (.int (k : Int))) Γ := by rw [← hG]; rfl
    have v5 : varM 5 Γ = .ok (.f (.int (at3 : Int))) Γ := by rw [← hG]; rfl
    have v6 : varM 6 Γ = .ok (.f (.int f)) Γ := by rw [← hG]; rfl
    have v7 : varM 7 Γ = .ok (.f (.int (2 * r6 + 1))) Γ := by rw [← hG]; rfl
    have hmul : mulC (2 * r6 + 1) (k : Int) = true := by
      simp only [mulC, Bool.or_eq_true, decide_eq_true_eq]
      omega
    have p26 : (0 : Int) < 26 := by decide
    have hx0 : 0 ≤ (f + (2 * r6 + 1) * (k : Int)) % 26 := Int.emod_nonneg _ (by decide)
    have hx1 : (f + (2 * r6 + 1) * (k : Int)) % 26 < 26 := Int.emod_lt_of_pos _ (by decide)
    have hlt := letter (Γ := Γ) hx0 hx1
    have l1 : (cutS stem none (some (at3 : Int))).length ≤ 8 := by
      rw [len_codes, cut_lo, List.length_take]; omega
    have l2 : (cutS stem (some (at3 : Int)) none).length ≤ 8 := by
      rw [len_codes, cut_hi, List.length_drop]; omega
    have l3 : ∀ z : Nat, (⟨#[z]⟩ : Str).length = 1 := fun _ => rfl
    have z1 : (cutS stem none (some (at3 : Int))).length + (⟨#[97 + ((f + (2 * r6 + 1) * (k : Int)) % 26).toNat]⟩ : Str).length ≤ sizeLine := by
      rw [l3]; omega
    have z2 : (cutS stem none (some (at3 : Int)) ++ ⟨#[97 + ((f + (2 * r6 + 1) * (k : Int)) % 26).toNat]⟩ : Str).length + (cutS stem (some (at3 : Int)) none).length ≤ sizeLine := by
      rw [len_codes, app_codes, List.length_append]
      simp only [List.length_cons, List.length_nil]
      rw [← len_codes]
      omega
    have hd26 : decide ((0 : Int) < 26) = true := rfl
    simp only [fzL, bin, rd, v2, v3, v4, v5, v6, v7, constM, R.bind_ok, rdV, sliceM, partM, noPart, slF, viewD, if_pos sz, callM, consA, nilA, int1F, mulF, hmul, if_true, addF, modF, intF_ii, hd26, hlt, if_pos z1, if_pos z2, fzV, strF, Int.toNat_natCast, oneL]
end
section
variable {s4 x4 : Slot} {m : Nat} {stem w8 : Str} {a f r6 : Int}
theorem test_ok {m : Gam → R Val} {Γ : Gam} {b : Bool} (h : m Γ = .ok (.f (.bool b)) Γ) : testM m Γ = .ok b Γ := by
  unfold testM
  rw [rd_f h]
  rfl
theorem names_cA (hm : 1 ≤ m ∧ m ≤ 8) (h6 : 3 ≤ r6) : andT (testM (bin gtF (varM 7) (constM (.int 5)))) (testM (bin ltF (varM 1) (constM (.int 9)))) (s4 :: rest1 m stem x4 a f (2 * r6 + 1) (.val (.str w8))) = .ok true (s4 :: rest1 m stem x4 a f (2 * r6 + 1) (.val (.str w8))) := by
  have q5 : decide ((5 : Int) < 2 * r6 + 1) = true := decide_eq_true (by omega)
  have q9 : decide ((m : Int) < 9) = true := decide_eq_true (by omega)
  have e1 : bin gtF (varM 7) (constM (.int 5)) (s4 :: rest1 m stem x4 a f (2 * r6 + 1) (.val (.str w8))) = .ok (.f (.bool true)) (s4 :: rest1 m stem x4 a f (2 * r6 + 1) (.val (.str w8))) := bin_ok (d := .int (2 * r6 + 1)) (e := .int 5) rfl rfl (by rw [← q5]; rfl)
  have e2 : bin ltF (varM 1) (constM (.int 9)) (s4 :: rest1 m stem x4 a f (2 * r6 + 1) (.val (.str w8))) = .ok (.f (.bool true)) (s4 :: rest1 m stem x4 a f (2 * r6 + 1) (.val (.str w8))) := bin_ok (d := .int (m : Int)) (e := .int 9) rfl rfl (by rw [ltF_int, q9])
  unfold andT
  rw [test_ok e1]
  exact test_ok e2
theorem names_cB (h6 : ¬ 3 ≤ r6) : andT (testM (bin gtF (varM 7) (constM (.int 5)))) (testM (bin ltF (varM 1) (constM (.int 9)))) (s4 :: rest1 m stem x4 a f (2 * r6 + 1) (.val (.str w8))) = .ok false (s4 :: rest1 m stem x4 a f (2 * r6 + 1) (.val (.str w8))) := by
  have q5 : decide ((5 : Int) < 2 * r6 + 1) = false := decide_eq_false (by omega)
  have e1 : bin gtF (varM 7) (constM (.int 5)) (s4 :: rest1 m stem x4 a f (2 * r6 + 1) (.val (.str w8))) = .ok (.f (.bool false)) (s4 :: rest1 m stem x4 a f (2 * r6 + 1) (.val (.str w8))) := bin_ok (d := .int (2 * r6 + 1)) (e := .int 5) rfl rfl (by rw [← q5]; rfl)
  unfold andT
  rw [test_ok e1]
  rfl
theorem ifS_t {t : Gam → R Bool} {m n : Gam → RS} {Γ : Gam} (h : t Γ = .ok true Γ) : ifS t m n Γ = m Γ := by
  unfold ifS
  rw [h]
  rfl
theorem ifS_f {t : Gam → R Bool} {m n : Gam → RS} {Γ : Gam} (h : t Γ = .ok false Γ) : ifS t m n Γ = n Γ := by
  unfold ifS
  rw [h]
  rfl
theorem ifS_fn {t : Gam → R Bool} {m : Gam → RS} {Γ : Gam} (h : t Γ = .ok false Γ) : ifS t m nextM Γ = .nx Γ := by
  unfold ifS
  rw [h]
  rfl
theorem retM_n {m : Gam → R Val} {Γ Γ1 : Gam} {f : Fld} (h : m Γ = .ok (.n f) Γ1) : retM m Γ = .rt (.n f) Γ1 := by
  unfold retM
  rw [h]
  rfl
theorem seqM_rt {m n : Gam → RS} {Γ Γ1 : Gam} {v : Val} (h : m Γ = .rt v Γ1) : seqM m n Γ = .rt v Γ1 := by
  unfold seqM
  rw [h]
end
theorem names_spec {s : Slot} {n : Int} {m : Nat} (hb : Bx n s none) (hn : n < 100000) (hm : 1 ≤ m ∧ m ≤ 8) :
    ∃ ws s', g__law_names [s, .val (.int (m : Int))] = .ok (.n (.ol (ws.map .str))) [s', .val (.int (m : Int))] ∧ Bx (n + 11) s' none ∧ NmRes (m : Int) ws := by
  have hsz := big
  obtain ⟨cells, left, at_, rfl, c1, c2, c3, c4⟩ := hb
  have hb : Bx n (.box 0 (some 0) (rngD cells left at_)) (some 0) := ⟨cells, left, at_, rfl, c1, c2, c3, c4⟩
  unfold g__law_names gOf
  rw [if_pos ⟨rfl, rfl⟩]
  have e0 : startA 9 [.box 0 none (rngD cells left at_), .val (.int (m : Int))] = .box 0 (some 0) (rngD cells left at_) :: [.val (.int (m : Int)), .un, .un, .un, .un, .un, .un, .un] := rfl
  rw [e0]
  generalize hs0 : Slot.box 0 (some 0) (rngD cells left at_) = s at hb
  unfold m__law_names
  -- letters, stem
  have h1 : asgM (tupM (consD (constM (.str "abcdefghijklmnopqrstuvwxyz")) (consD (constM (.str "")) nilD))) (tgT 2 (tgCons (tgN 2) (tgCons (tgN 3) tgNil))) (s :: [.val (.int (m : Int)), .un, .un, .un, .un, .un, .un, .un]) = .nx (s :: rest0 m "" .un) := rfl
  rw [seqM_nx h1]
  -- the stem
  obtain ⟨r0, s0, d0, b0, l0, u0⟩ := draw (m := constM (.int 8)) (rest := rest0 m "" .un) hb (by omega) (by decide : (1 : Int) ≤ 8) (by decide) rfl
  have hlow : Low "" := by
    intro x hx
    have h0 : ("" : Str).cps.toList = [] := rfl
    rw [h0] at hx
    simp at hx
  have hlen0 : ("" : Str).cps.toList.length = 0 := rfl
  have hdl : (rangeD 0 r0.toNat).length = r0.toNat := by simp [rangeD]
  obtain ⟨s1, stem, x4, q1, b1, low1, len1⟩ := stem_loop m (rangeD 0 r0.toNat) (n + 1) s0 "" .un b0 (by rw [hdl]; omega) hlow (by rw [hdl, hlen0]; omega)
  have hfor : forM (rg1M (consA (callM (callG g__law_next) (consA (varM 0) (consA (constM (.int 8)) nilA))) nilA)) (tgN 4) (setM 3 (bin addF (varM 3) (bin ixF (varM 2) (callM (callG g__law_next) (consA (varM 0) (consA (constM (.int 26)) nilA)))))) (s :: rest0 m "" .un) = .nx (s1 :: rest0 m stem x4) := by
    have hi : rg1M (consA (callM (callG g__law_next) (consA (varM 0) (consA (constM (.int 8)) nilA))) nilA) (s :: rest0 m "" .un) = .ok ⟨rangeD 0 r0.toNat, none⟩ (s0 :: rest0 m "" .un) := by
      exact rg_ok d0 l0 (by omega)
    unfold forM
    rw [hi]
    exact q1
  rw [seqM_nx hfor]
  rw [hlen0, hdl] at len1
  rw [hdl] at b1
  have hL : stem.cps.toList.length ≤ 7 := by omega
  have b1 : Bx (n + 8) s1 (some 0) := b1.up (by omega)
  -- at, first, by
  have hlenM : rd (bin addF (callM lenF (consA (varM 3) nilA)) (constM (.int 1))) (s1 :: rest0 m stem x4) = .ok (.f (.int ((stem.length : Int) + 1))) (s1 :: rest0 m stem x4) := by
    have v3 : varM 3 (s1 :: rest0 m stem x4) = .ok (.f (.str stem)) (s1 :: rest0 m stem x4) := rfl
    have hz : stem.length ≤ sizeLine := by rw [len_codes]; omega
    simp [rd, bin, callM, consA, v3, rdV, nilA, lenF, viewD, hz, constM, addF]
  obtain ⟨a, s2, d2, b2, la, ua⟩ := draw b1 (by omega) (by rw [len_codes]; omega : (1 : Int) ≤ (stem.length : Int) + 1) (by rw [len_codes]; omega) hlenM
  obtain ⟨f, s3, d3, b3, lf, uf⟩ := draw (m := constM (.int 26)) (rest := rest0 m stem x4) b2 (by omega) (by decide : (1 : Int) ≤ 26) (by decide) rfl
  obtain ⟨r6, s4, d4, b4, l6, u6⟩ := draw (m := constM (.int 6)) (rest := rest0 m stem x4) b3 (by omega) (by decide : (1 : Int) ≤ 6) (by decide) rfl
  have h2 := names_h2 hsz d2 d3 d4 l6 u6
  rw [seqM_nx h2]
  -- the long word
  have hw := letter (Γ := s4 :: rest1 m stem x4 a f (2 * r6 + 1) .un) lf uf
  generalize hfl : 97 + f.toNat = fl at hw
  have hfl2 : 97 ≤ fl ∧ fl ≤ 122 := by omega
  generalize hw8 : cutS (stem ++ ⟨#[fl, fl, fl, fl, fl, fl, fl, fl]⟩) none (some ((8 : Nat) : Int)) = w8
  have h8c : w8.cps.toList = (stem.cps.toList ++ [fl, fl, fl, fl, fl, fl, fl, fl]).take 8 := by
    rw [← hw8, cut_lo, app_codes]
  have h8l : w8.cps.toList.length = 8 := by
    rw [h8c, List.length_take, List.length_append]
    simp only [List.length_cons, List.length_nil]
    omega
  have h8low : Low w8 := by
    intro x hx
    rw [h8c] at hx
    have := List.mem_of_mem_take hx
    simp only [List.mem_append, List.mem_cons, List.not_mem_nil, or_false] at this
    rcases this with h | h
    · exact low1 x h
    · rcases h with h | h | h | h | h | h | h | h <;> omega
  have h3 := names_h3 (s4 := s4) (x4 := x4) (m := m) (a := a) hsz hL hw hw8
  rw [seqM_nx h3]
  -- the end
  have hm9 : (m : Int) < 9 := by omega
  have hrl : (rangeD 0 m).length < sizeLine := by
    simp only [rangeD, List.length_map, List.length_range]
    omega
  have hmem : ∀ d ∈ rangeD 0 m, ∃ k : Nat, k < m ∧ d = .int (k : Int) := by
    intro d hd
    simp only [rangeD, List.mem_map, List.mem_range] at hd
    obtain ⟨k, hk, rfl⟩ := hd
    exact ⟨k, hk, by simp⟩
  have hfin : ∀ (ws : List Str) (x : Slot), NmRes (m : Int) ws → ∃ ws' s', outG [.box 0 none (rngD cells left at_), .val (.int (m : Int))] (.rt (.n (.ol (ws.map .str))) (s4 :: (rest1 m stem x4 a f (2 * r6 + 1) (.val (.str w8))).set 3 x)) = .ok (.n (.ol (ws'.map .str))) [s', .val (.int (m : Int))] ∧ Bx (n + 11) s' none ∧ NmRes (m : Int) ws' := by
    intro ws x hres
    obtain ⟨c, l, at2, e0, e1, e2, e3, e4⟩ := b4
    rw [e0]
    exact ⟨ws, .box 0 none (rngD c l at2), rfl, ⟨c, l, at2, rfl, e1, e2, e3, by omega⟩, hres⟩
  have w8z : w8.length ≤ sizeLine := by rw [len_codes]; omega
  have sz : stem.length ≤ sizeLine := by rw [len_codes]; omega
  by_cases h6 : 3 ≤ r6
  · obtain ⟨ws, x, hw, hcm⟩ := names_A (s4 := s4) (x4 := x4) (stem := stem) (a := a) (f := f) hm h8low h8l w8z h6 hrl
    rw [seqM_rt ((ifS_t (names_cA hm h6)).trans (retM_n hcm))]
    exact hfin ws x hw
  · rw [seqM_nx (ifS_fn (names_cB h6))]
    obtain ⟨at3, rfl⟩ : ∃ k : Nat, a = k := ⟨a.toNat, by omega⟩
    have hat : at3 ≤ stem.cps.toList.length := by rw [len_codes] at ua; omega
    have hres := mid_res (m := m) (by_ := 2 * r6 + 1) hm.2 low1 hL hat ⟨lf, uf⟩ (by omega)
    have hcm := names_B (s4 := s4) (x4 := x4) (w8 := w8) (f := f) (at3 := at3) hm hsz hL sz l6 u6 hrl
    rw [retM_n hcm]
    exact hfin _ _ hres
end DL
end

section
set_option Elab.async false
set_option linter.all false
set_option maxRecDepth 100000
set_option autoImplicit false
set_option maxHeartbeats 4000000
/-! the law's turns, on drawn names -/
namespace DL
open PySem PySem.Spec PyProof.Rows L2
theorem tru_ok {r : R Val} (h : isTru r = true) : ∃ As, r = .ok (.f (.bool true)) As := by
  unfold isTru at h
  split at h
  · exact ⟨_, rfl⟩
  · cases h
theorem tru_sim {φ : Str → Str} {r' r : R Val} (e : LeR φ (fV φ) r' r) (h : isTru r' = true) : ∃ As, r = .ok (.f (.bool true)) As := by
  obtain ⟨As, rfl⟩ := tru_ok h
  rcases e with e | e
  · cases e
  · exact ⟨fG φ As, by rw [e]; simp [rm, fV, mp_bool]⟩
theorem mp_lawL {φ : Str → Str} {A B : Str} (ha : φ "a" = A) (hb : φ "b" = B) : mp φ (lawL "a" "b") = lawL A B := by
  simp [lawL, mp_list, mp_tuple, mp_str, mp_int, ha, hb]
theorem wd_two {φ : Str → Str} {A B : Str} (ha : φ "a" = A) (hb : φ "b" = B) (wa : Word A) (wb : Word B) : Wd φ := ⟨by
  intro c hc
  simp only [cnm, List.mem_cons, List.not_mem_nil, or_false] at hc
  rcases hc with rfl | rfl
  · rw [ha]; exact is_word_ok wa
  · rw [hb]; exact is_word_ok wb⟩
theorem two_ex {A B : Str} (wa : Word A) (wb : Word B) (h : A.cps.toList < B.cps.toList) : ∃ φ : Str → Str, Mono φ ∧ φ "a" = A ∧ φ "b" = B := by
  obtain ⟨φ, m, q⟩ := phi_ex ["a", "b"] [A, B] (by decide) (by simpa using h) (by
    intro w hw
    simp only [List.mem_cons, List.not_mem_nil, or_false] at hw
    rcases hw with rfl | rfl
    · exact wa
    · exact wb)
  exact ⟨φ, m, q ("a", A) (by simp), q ("b", B) (by simp)⟩
theorem pic_ok {A B : Str} (wa : Word A) (wb : Word B) (h : A.cps.toList < B.cps.toList) :
    ∃ c fds As1 As2 As3, g_Picture___init__ [.cmp "Picture" none [], .val (lawL A B)] = .ok (.f .none) (.cmp c none fds :: As1) ∧ g__law_first_right [.val (.str A), .val (.str B), .val (ins c fds)] = .ok (.f (.bool true)) As2 ∧
      g__law_second_right [.val (ins c fds)] = .ok (.f (.bool true)) As3 := by
  obtain ⟨φ, M, ha, hb⟩ := two_ex wa wb h
  haveI : Nm φ := ⟨M⟩
  haveI : Wd φ := wd_two ha hb wa wb
  have hbody := bodyT_ok
  unfold bodyT at hbody
  have S1 := Sg.o (φ := φ) (g' := gT_Picture___init__) (g := g_Picture___init__) [.cmp "Picture" none [], .val (lawL "a" "b")]
  split at hbody
  · rename_i c fds As e
    rw [Bool.and_eq_true] at hbody
    rw [e] at S1
    have S2 := Sg.o (φ := φ) (g' := gT__law_first_right) (g := g__law_first_right) [.val (.str "a"), .val (.str "b"), .val (ins c fds)]
    have S3 := Sg.o (φ := φ) (g' := gT__law_second_right) (g := g__law_second_right) [.val (ins c fds)]
    obtain ⟨As2, q2⟩ := tru_sim S2 hbody.1
    obtain ⟨As3, q3⟩ := tru_sim S3 hbody.2
    simp only [fG, List.map_cons, List.map_nil, fS, fF, mp_str, ha, hb, mp_ins, mp_lawL ha hb] at q2 q3 S1
    rcases S1 with S1 | S1
    · cases S1
    · exact ⟨c, mI φ fds, fG φ As, As2, As3, S1.trans (by simp [rm, fV, mp_none, fS]), q2, q3⟩
  · cases hbody
/-! the beginning -/
theorem filt_go (X : List D) (p : Int) (hp : ∀ Γ : Gam, bin powF (constM (.int 10)) (constM (.int 18)) Γ = .ok (.f (.int p)) Γ) : ∀ (ns acc : List Int), acc.length + ns.length < sizeLine →
    ∃ l : List Int, compGo (tgN 1) (testM (bin geF (varM 1) (bin powF (constM (.int 10)) (constM (.int 18))))) (fzL (varM 1)) [1] none (ns.map .int) [.vw X, .un] (acc.map .int) = .ok ((acc ++ l).map .int) [.vw X, .un] ∧ l.length ≤ ns.length
  | [], acc, _ => ⟨[], by simp [compGo], by simp⟩
  | i :: ns, acc, h => by
    simp only [List.length_cons] at h
    have t : tgN 1 (.int i) [.vw X, .un] = some [.vw X, .val (.int i)] := rfl
    have v1 : varM 1 [.vw X, .val (.int i)] = .ok (.f (.int i)) [.vw X, .val (.int i)] := rfl
    have e : bin geF (varM 1) (bin powF (constM (.int 10)) (constM (.int 18))) [.vw X, .val (.int i)] = .ok (.f (.bool (decide (p ≤ i)))) [.vw X, .val (.int i)] := bin_ok v1 (hp _) rfl
    have et := test_ok e
    have ef : fzL (varM 1) [.vw X, .val (.int i)] = .ok (.int i) [.vw X, .val (.int i)] := rfl
    have ew : wipeG [.vw X, .val (.int i)] [1] = [.vw X, .un] := rfl
    simp only [List.map_cons, compGo, guardB_none, if_true, t, et, R.bind_ok]
    cases hd : decide (p ≤ i) with
    | true =>
      simp only [if_true, ef, R.bind_ok, List.length_map]
      rw [if_pos (by omega), ew]
      obtain ⟨l, q1, q2⟩ := filt_go X p hp ns (acc ++ [i]) (by simp; omega)
      refine ⟨i :: l, ?_, by simpa using q2⟩
      simpa using q1
    | false =>
      simp only [Bool.false_eq_true, if_false]
      rw [ew]
      obtain ⟨l, q1, q2⟩ := filt_go X p hp ns acc (by omega)
      exact ⟨l, q1, by simp; omega⟩
theorem pow_18 : ∃ p, ∀ Γ : Gam, bin powF (constM (.int 10)) (constM (.int 18)) Γ = .ok (.f (.int p)) Γ := ⟨10 ^ 18, fun Γ => by
  refine bin_ok rfl rfl ?_
  have : powC 10 18 = true := by decide
  simp only [powF, intF_ii, this, if_true]
  rfl⟩
theorem ints_map (ns : List Int) : intsOf (ns.map PyData.int) = some ns := by
  induction ns with
  | nil => rfl
  | cons n ns ih => simp [intsOf, ih]
theorem begun_ok (ns : List Int) (h : ns.length ≤ 63) : ∃ l As, g__law_begun [.vw (ns.map .int)] = .ok (.nb 0 (rngD ns l 0)) As ∧ l.length ≤ 63 := by
  obtain ⟨p, hp⟩ := pow_18
  have hb := big
  obtain ⟨l, q1, q2⟩ := filt_go (ns.map .int) p hp ns [] (by simp; omega)
  refine ⟨l, [.vw (ns.map .int)], ?_, by omega⟩
  have hsrc : srcM' (varM 0) [.vw (ns.map .int), .un] = .ok ⟨ns.map .int, none⟩ [.vw (ns.map .int), .un] := rfl
  have hcomp : compM (srcM' (varM 0)) (tgN 1) (testM (bin geF (varM 1) (bin powF (constM (.int 10)) (constM (.int 18))))) (fzL (varM 1)) [1] [1] [.vw (ns.map .int), .un] = .ok (.n (.ol (l.map .int))) [.vw (ns.map .int), .un] := by
    unfold compM
    rw [hsrc]
    have e : ([1].all (fun t => decide (t ∈ [1])) && brOk none [1]) = true := rfl
    simp only [R.bind_ok]
    rw [if_pos e]
    have ew : wipeG [.vw (ns.map .int), .un] [1] = [.vw (ns.map .int), .un] := rfl
    rw [ew]
    have q1 := q1
    simp only [List.map_nil, List.nil_append] at q1
    rw [q1]
    simp only [compEnd, List.length_map]
    rw [if_pos (by omega)]
    rfl
  have hfz : fzL (callM listF (consA (varM 0) nilA)) [.vw (ns.map .int), .un] = .ok (.list (ns.map .int)) [.vw (ns.map .int), .un] := rfl
  have hr : rnewM (callM listF (consA (varM 0) nilA)) (compM (srcM' (varM 0)) (tgN 1) (testM (bin geF (varM 1) (bin powF (constM (.int 10)) (constM (.int 18))))) (fzL (varM 1)) [1] [1]) [.vw (ns.map .int), .un] = .ok (.nb 0 (rngD ns l 0)) [.vw (ns.map .int), .un] := by
    unfold rnewM
    rw [hfz]
    simp only [R.bind_ok, hcomp, ints_map]
  unfold g__law_begun gOf
  rw [if_pos ⟨rfl, rfl⟩]
  have e0 : startA 2 [.vw (ns.map .int)] = [.vw (ns.map .int), .un] := rfl
  rw [e0]
  unfold m__law_begun retM
  rw [hr]
  rfl
/-! one turn, all turns -/
def turnM : Gam → RS := (seqM (asgM (callM sortF (consA (callM (callG g__law_names) (consA (varM 1) (consA (constM (.int 2)) nilA))) nilA)) (tgTL 2 (tgCons (tgN 4) (tgCons (tgN 5) tgNil))))
    (seqM (setM 3 (callM (makeV "Picture" g_Picture___init__) (consA (lstM (consD (tupM (consD (tupM (consD (varM 4) nilD)) (consD (constM (.int 0)) nilD))) (consD (tupM (consD (tupM (consD (varM 5) nilD)) (consD (constM (.int 1)) nilD))) (consD (tupM (consD (tupM (consD (varM 4) (consD (varM 5) nilD))) (consD (constM (.int 2)) nilD))) nilD)))) nilA)))
    (ifS (orT (notT (testM (callM (callG g__law_first_right) (consA (varM 4) (consA (varM 5) (consA (varM 3) nilA)))))) (notT (testM (callM (callG g__law_second_right) (consA (varM 3) nilA)))))
    (retM (constM (.bool false)))
    nextM)))
theorem names_call {X : List D} {s : Slot} {n : Int} {m : Nat} {rest : List Slot} (hb : Bx n s none) (hn : n < 100000) (hm : 1 ≤ m ∧ m ≤ 8) :
    ∃ ws s', callM (callG g__law_names) (consA (varM 1) (consA (constM (.int (m : Int))) nilA)) (.vw X :: s :: rest) = .ok (.n (.ol (ws.map .str))) (.vw X :: s' :: rest) ∧ Bx (n + 11) s' none ∧ NmRes (m : Int) ws := by
  obtain ⟨ws, s', q1, q2, q3⟩ := names_spec hb hn hm
  refine ⟨ws, s', ?_, q2, q3⟩
  obtain ⟨c, l, a, rfl, _⟩ := hb
  obtain ⟨c2, l2, a2, rfl, _⟩ := q2
  have hv : rd (varM 1) (.vw X :: .box 0 none (rngD c l a) :: rest) = .ok (.b 1) (.vw X :: .box 0 none (rngD c l a) :: rest) := rfl
  have hm : rd (constM (.int (m : Int))) (.vw X :: .box 0 none (rngD c l a) :: rest) = .ok (.f (.int (m : Int))) (.vw X :: .box 0 none (rngD c l a) :: rest) := rfl
  simp only [callM, consA, hv, hm, R.bind_ok, nilA, callG, headBx, List.getElem?_cons_zero, List.getElem?_cons_succ, isBx, if_true, callX, argsF, fzV, List.map_cons, List.map_nil, unpin]
  rw [q1]
  rfl
theorem turn_ok {X : List D} {s x2 x3 x4 x5 : Slot} {n : Int} (hb : Bx n s none) (hn : n < 100000) : ∃ s' y3 y4 y5, turnM [.vw X, s, x2, x3, x4, x5] = .nx [.vw X, s', x2, y3, y4, y5] ∧ Bx (n + 11) s' none := by
  obtain ⟨ws, s', q1, q2, q3⟩ := names_call (X := X) (m := 2) (rest := [x2, x3, x4, x5]) hb hn (by decide)
  have hl2 := q3.len
  have hb1 := big
  obtain ⟨vs, v1, v2, v3, v4⟩ := srt_strs ws q3.nd
  have hvl : vs.length = 2 := by omega
  obtain ⟨A, B, rfl⟩ : ∃ A B, vs = [A, B] := by
    rcases vs with _ | ⟨A, _ | ⟨B, _ | ⟨C, r⟩⟩⟩ <;> simp at hvl
    exact ⟨A, B, rfl⟩
  have hAB : A.cps.toList < B.cps.toList := by simpa using v4
  obtain ⟨c, fds, As1, As2, As3, p1, p2, p3⟩ := pic_ok (q3.wd A (v3 A (by simp))) (q3.wd B (v3 B (by simp))) hAB
  have hz : ws.length ≤ sizeLine := by omega
  refine ⟨s', .val (ins c fds), .val (.str A), .val (.str B), ?_, q2⟩
  have h1 : asgM (callM sortF (consA (callM (callG g__law_names) (consA (varM 1) (consA (constM (.int 2)) nilA))) nilA)) (tgTL 2 (tgCons (tgN 4) (tgCons (tgN 5) tgNil))) [.vw X, s, x2, x3, x4, x5] = .nx [.vw X, s', x2, x3, .val (.str A), .val (.str B)] := by
    have e1 : callM sortF (consA (callM (callG g__law_names) (consA (varM 1) (consA (constM (.int 2)) nilA))) nilA) [.vw X, s, x2, x3, x4, x5] = .ok (.n (.ol [.str A, .str B])) [.vw X, s', x2, x3, x4, x5] := by
      have q1' : callM (callG g__law_names) (consA (varM 1) (consA (constM (.int 2)) nilA)) [.vw X, s, x2, x3, x4, x5] = _ := q1
      rw [callM, consA, rd, q1']
      simp only [R.bind_ok, rdV, fldD, nilA, sortF, viewD]
      rw [if_pos (okS_strs ws hz), v1]
      rfl
    rw [asgM, fzL, e1]
    rfl
  have h2 : setM 3 (callM (makeV "Picture" g_Picture___init__) (consA (lstM (consD (tupM (consD (tupM (consD (varM 4) nilD)) (consD (constM (.int 0)) nilD))) (consD (tupM (consD (tupM (consD (varM 5) nilD)) (consD (constM (.int 1)) nilD))) (consD (tupM (consD (tupM (consD (varM 4) (consD (varM 5) nilD))) (consD (constM (.int 2)) nilD))) nilD)))) nilA)) [.vw X, s', x2, x3, .val (.str A), .val (.str B)] = .nx [.vw X, s', x2, .cmp c none fds, .val (.str A), .val (.str B)] := by
    have el : lstM (consD (tupM (consD (tupM (consD (varM 4) nilD)) (consD (constM (.int 0)) nilD))) (consD (tupM (consD (tupM (consD (varM 5) nilD)) (consD (constM (.int 1)) nilD))) (consD (tupM (consD (tupM (consD (varM 4) (consD (varM 5) nilD))) (consD (constM (.int 2)) nilD))) nilD))) [.vw X, s', x2, x3, .val (.str A), .val (.str B)] = .ok (.n (.ol [.tuple [.tuple [.str A], .int 0], .tuple [.tuple [.str B], .int 1], .tuple [.tuple [.str A, .str B], .int 2]])) [.vw X, s', x2, x3, .val (.str A), .val (.str B)] := rfl
    have em : makeV "Picture" g_Picture___init__ [.vw X, s', x2, x3, .val (.str A), .val (.str B)] [.f (lawL A B)] = .ok (.nc c fds) [.vw X, s', x2, x3, .val (.str A), .val (.str B)] := by
      simp only [makeV, argsF, fzV, R.bind_ok, List.map_cons, List.map_nil]
      rw [p1]
    rw [setM, callM, consA, rd, el]
    simp only [R.bind_ok, rdV, fldD, nilA]
    rw [show makeV "Picture" g_Picture___init__ [.vw X, s', x2, x3, .val (.str A), .val (.str B)] [.f (.list [.tuple [.tuple [.str A], .int 0], .tuple [.tuple [.str B], .int 1], .tuple [.tuple [.str A, .str B], .int 2]])] = _ from em]
    rfl
  have c1 : callM (callG g__law_first_right) (consA (varM 4) (consA (varM 5) (consA (varM 3) nilA))) [.vw X, s', x2, .cmp c none fds, .val (.str A), .val (.str B)] = .ok (.f (.bool true)) [.vw X, s', x2, .val (ins c fds), .val (.str A), .val (.str B)] := by
    have a1 : (consA (varM 4) (consA (varM 5) (consA (varM 3) nilA))) [.vw X, s', x2, .cmp c none fds, .val (.str A), .val (.str B)] = .ok [.f (.str A), .f (.str B), .b 3] [.vw X, s', x2, .cmp c none fds, .val (.str A), .val (.str B)] := rfl
    have a2 : argsF [.vw X, s', x2, .cmp c none fds, .val (.str A), .val (.str B)] [.f (.str A), .f (.str B), .b 3] = .ok [.str A, .str B, ins c fds] [.vw X, s', x2, .val (ins c fds), .val (.str A), .val (.str B)] := rfl
    rw [callM, a1]
    simp only [R.bind_ok, callG, headBx, callV, a2, List.map_cons, List.map_nil]
    rw [p2]
    rfl
  have c2 : callM (callG g__law_second_right) (consA (varM 3) nilA) [.vw X, s', x2, .val (ins c fds), .val (.str A), .val (.str B)] = .ok (.f (.bool true)) [.vw X, s', x2, .val (ins c fds), .val (.str A), .val (.str B)] := by
    have a1 : (consA (varM 3) nilA) [.vw X, s', x2, .val (ins c fds), .val (.str A), .val (.str B)] = .ok [.f (ins c fds)] [.vw X, s', x2, .val (ins c fds), .val (.str A), .val (.str B)] := rfl
    rw [callM, a1]
    simp only [R.bind_ok, callG, headBx, callV, argsF, fzV, List.map_cons, List.map_nil]
    rw [p3]
    rfl
  have h3 : orT (notT (testM (callM (callG g__law_first_right) (consA (varM 4) (consA (varM 5) (consA (varM 3) nilA)))))) (notT (testM (callM (callG g__law_second_right) (consA (varM 3) nilA)))) [.vw X, s', x2, .cmp c none fds, .val (.str A), .val (.str B)] = .ok false [.vw X, s', x2, .val (ins c fds), .val (.str A), .val (.str B)] := by
    have t1 : testM (callM (callG g__law_first_right) (consA (varM 4) (consA (varM 5) (consA (varM 3) nilA)))) [.vw X, s', x2, .cmp c none fds, .val (.str A), .val (.str B)] = .ok true [.vw X, s', x2, .val (ins c fds), .val (.str A), .val (.str B)] := by
      rw [testM, rd, c1]
      rfl
    have t2 := test_ok c2
    rw [orT, notT, t1]
    simp only [R.bind_ok, Bool.not_true, Bool.false_eq_true, if_false]
    rw [notT, t2]
    rfl
  unfold turnM
  rw [seqM_nx h1, seqM_nx h2, ifS, h3]
  rfl
theorem turns_ok {X : List D} : ∀ (ds : List D) (n : Int) (s x2 x3 x4 x5 : Slot), Bx n s none → n + 11 * ds.length < 100000 → ∃ s' y2 y3 y4 y5, forGo (tgN 2) turnM ds [.vw X, s, x2, x3, x4, x5] = .nx [.vw X, s', y2, y3, y4, y5]
  | [], n, s, x2, x3, x4, x5, _, _ => ⟨s, x2, x3, x4, x5, rfl⟩
  | d :: ds, n, s, x2, x3, x4, x5, hb, hn => by
    simp only [List.length_cons] at hn
    obtain ⟨s', y3, y4, y5, e, b⟩ := turn_ok (X := X) (x2 := .val d) (x3 := x3) (x4 := x4) (x5 := x5) hb (by omega)
    have t : tgN 2 d [.vw X, s, x2, x3, x4, x5] = some [.vw X, s, .val d, x3, x4, x5] := rfl
    obtain ⟨s2, z2, z3, z4, z5, q⟩ := turns_ok (X := X) ds (n + 11) s' (.val d) y3 y4 y5 b (by omega)
    refine ⟨s2, z2, z3, z4, z5, ?_⟩
    rw [forGo]
    simp only [t, e]
    exact q
theorem plain_law (ns : List Int) (h : ns.length ≤ 63) : isTru (g_law [.vw (ns.map .int)]) = true := by
  obtain ⟨l, As, e, hl⟩ := begun_ok ns h
  have hb : Bx 0 (.box 0 none (rngD ns l 0)) none := ⟨ns, l, 0, rfl, by omega, by omega, by omega, by omega⟩
  generalize hX : ns.map PyData.int = X at e ⊢
  have hXl : X.length ≤ 63 := by rw [← hX]; simpa using h
  unfold g_law gOf
  rw [if_pos ⟨rfl, rfl⟩]
  have e0 : startA 6 [.vw X] = [.vw X, .un, .un, .un, .un, .un] := rfl
  rw [e0]
  unfold m_law
  have h1 : setM 1 (callW g__law_begun 0) [.vw X, .un, .un, .un, .un, .un] = .nx [.vw X, .box 0 none (rngD ns l 0), .un, .un, .un, .un] := by
    have : callW g__law_begun 0 [.vw X, .un, .un, .un, .un, .un] = .ok (.nb 0 (rngD ns l 0)) [.vw X, .un, .un, .un, .un, .un] := by
      simp only [callW, List.getElem?_cons_zero]
      rw [e]
      rfl
    rw [setM, this]
    rfl
  rw [seqM_nx h1]
  obtain ⟨k, hk, hi⟩ : ∃ k : Int, (0 ≤ k ∧ k ≤ 5) ∧ rg1M (consA (bin addF (constM (.int 1)) (callM min2F (consA (callM lenF (consA (varM 0) nilA)) (consA (constM (.int 4)) nilA)))) nilA) [.vw X, .box 0 none (rngD ns l 0), .un, .un, .un, .un] = .ok ⟨rangeD 0 k.toNat, none⟩ [.vw X, .box 0 none (rngD ns l 0), .un, .un, .un, .un] := by
    refine ⟨1 + (if (4 : Int) < (X.length : Int) then 4 else (X.length : Int)), ?_, ?_⟩
    · split <;> omega
    · refine rg_ok ?_ (by split <;> omega) (by split <;> omega)
      refine bin_ok (d := .int 1) (e := .int (if (4 : Int) < (X.length : Int) then 4 else (X.length : Int))) rfl ?_ rfl
      rfl
  have hrl : (rangeD 0 k.toNat).length ≤ 5 := by
    simp only [rangeD, List.length_map, List.length_range]
    omega
  obtain ⟨s', y2, y3, y4, y5, q⟩ := turns_ok (X := X) (rangeD 0 k.toNat) 0 _ .un .un .un .un hb (by omega)
  have h2 : forM (rg1M (consA (bin addF (constM (.int 1)) (callM min2F (consA (callM lenF (consA (varM 0) nilA)) (consA (constM (.int 4)) nilA)))) nilA)) (tgN 2) turnM [.vw X, .box 0 none (rngD ns l 0), .un, .un, .un, .un] = .nx [.vw X, s', y2, y3, y4, y5] := by
    unfold forM
    rw [hi]
    exact q
  unfold turnM at h2
  rw [seqM_nx h2]
  rfl
end DL
end

section
set_option Elab.async false
set_option linter.all false
set_option maxRecDepth 100000
set_option autoImplicit false
set_option maxHeartbeats 0
namespace DL
open PySem PySem.Spec PyProof.Rows L2
def d_is_word : He.DefD := ⟨("is_word", none), "is_word", "is_word", defArgs s_is_word, defBody s_is_word, defScope s_is_word, [], []⟩
def d_is_number : He.DefD := ⟨("is_number", none), "is_number", "is_number", defArgs s_is_number, defBody s_is_number, defScope s_is_number, [], []⟩
def d_is_among : He.DefD := ⟨("is_among", none), "is_among", "is_among", defArgs s_is_among, defBody s_is_among, defScope s_is_among, [], []⟩
def d_are_rising : He.DefD := ⟨("are_rising", none), "are_rising", "are_rising", defArgs s_are_rising, defBody s_are_rising, defScope s_are_rising, [], []⟩
def d_is_thing : He.DefD := ⟨("is_thing", none), "is_thing", "is_thing", defArgs s_is_thing, defBody s_is_thing, defScope s_is_thing, [], []⟩
def d_is_time : He.DefD := ⟨("is_time", none), "is_time", "is_time", defArgs s_is_time, defBody s_is_time, defScope s_is_time, [], []⟩
def d_need_time : He.DefD := ⟨("need_time", none), "need_time", "need_time", defArgs s_need_time, defBody s_need_time, defScope s_need_time, [], []⟩
def d_sides_of : He.DefD := ⟨("sides_of", none), "sides_of", "sides_of", defArgs s_sides_of, defBody s_sides_of, defScope s_sides_of, [], []⟩
def d_is_timed : He.DefD := ⟨("is_timed", none), "is_timed", "is_timed", defArgs s_is_timed, defBody s_is_timed, defScope s_is_timed, [], []⟩
def d_lacking : He.DefD := ⟨("lacking", none), "lacking", "lacking", defArgs s_lacking, defBody s_lacking, defScope s_lacking, [], []⟩
def d_need_items : He.DefD := ⟨("need_items", none), "need_items", "need_items", defArgs s_need_items, defBody s_need_items, defScope s_need_items, [], []⟩
def d_in_row : He.DefD := ⟨("in_row", none), "in_row", "in_row", defArgs s_in_row, defBody s_in_row, defScope s_in_row, [], []⟩
def d_need_kind : He.DefD := ⟨("need_kind", none), "need_kind", "need_kind", defArgs s_need_kind, defBody s_need_kind, defScope s_need_kind, [], []⟩
def d_Picture_has : He.DefD := ⟨("Picture", some "has"), "has", "Picture.has", defArgs s_Picture_has, defBody s_Picture_has, defScope s_Picture_has, [], []⟩
def d_is_chain : He.DefD := ⟨("is_chain", none), "is_chain", "is_chain", defArgs s_is_chain, defBody s_is_chain, defScope s_is_chain, [], []⟩
def d_need_chain : He.DefD := ⟨("need_chain", none), "need_chain", "need_chain", defArgs s_need_chain, defBody s_need_chain, defScope s_need_chain, [], []⟩
def d_number_in : He.DefD := ⟨("number_in", none), "number_in", "number_in", defArgs s_number_in, defBody s_number_in, defScope s_number_in, [], []⟩
def d_figures_of : He.DefD := ⟨("figures_of", none), "figures_of", "figures_of", defArgs s_figures_of, defBody s_figures_of, defScope s_figures_of, [], []⟩
def d_chain_of : He.DefD := ⟨("chain_of", none), "chain_of", "chain_of", defArgs s_chain_of, defBody s_chain_of, defScope s_chain_of, [], []⟩
def d_last_of : He.DefD := ⟨("last_of", none), "last_of", "last_of", defArgs s_last_of, defBody s_last_of, defScope s_last_of, [], []⟩
def d_edges : He.DefD := ⟨("edges", none), "edges", "edges", defArgs s_edges, defBody s_edges, defScope s_edges, [], []⟩
def d_edge_of : He.DefD := ⟨("edge_of", none), "edge_of", "edge_of", defArgs s_edge_of, defBody s_edge_of, defScope s_edge_of, [], []⟩
def d_edge : He.DefD := ⟨("edge", none), "edge", "edge", defArgs s_edge, defBody s_edge, defScope s_edge, [], []⟩
def d_is_ring : He.DefD := ⟨("is_ring", none), "is_ring", "is_ring", defArgs s_is_ring, defBody s_is_ring, defScope s_is_ring, [], []⟩
def d_numbers_there : He.DefD := ⟨("numbers_there", none), "numbers_there", "numbers_there", defArgs s_numbers_there, defBody s_numbers_there, defScope s_numbers_there, [], []⟩
def d_Basis___init__ : He.DefD := ⟨("Basis", some "__init__"), "__init__", "Basis.__init__", defArgs s_Basis___init__, defBody s_Basis___init__, defScope s_Basis___init__, [], []⟩
def d_Basis_reduced : He.DefD := ⟨("Basis", some "reduced"), "reduced", "Basis.reduced", defArgs s_Basis_reduced, defBody s_Basis_reduced, defScope s_Basis_reduced, [], []⟩
def d_Basis_take : He.DefD := ⟨("Basis", some "take"), "take", "Basis.take", defArgs s_Basis_take, defBody s_Basis_take, defScope s_Basis_take, [], []⟩
def d_basis_of : He.DefD := ⟨("basis_of", none), "basis_of", "basis_of", defArgs s_basis_of, defBody s_basis_of, defScope s_basis_of, [], []⟩
def d_need_ring : He.DefD := ⟨("need_ring", none), "need_ring", "need_ring", defArgs s_need_ring, defBody s_need_ring, defScope s_need_ring, [], []⟩
def d_filling : He.DefD := ⟨("filling", none), "filling", "filling", defArgs s_filling, defBody s_filling, defScope s_filling, [], []⟩
def d_is_filled : He.DefD := ⟨("is_filled", none), "is_filled", "is_filled", defArgs s_is_filled, defBody s_is_filled, defScope s_is_filled, [], []⟩
def d_Basis_rank : He.DefD := ⟨("Basis", some "rank"), "rank", "Basis.rank", defArgs s_Basis_rank, defBody s_Basis_rank, defScope s_Basis_rank, [], []⟩
def d_holes : He.DefD := ⟨("holes", none), "holes", "holes", defArgs s_holes, defBody s_holes, defScope s_holes, [], []⟩
def d_need_place : He.DefD := ⟨("need_place", none), "need_place", "need_place", defArgs s_need_place, defBody s_need_place, defScope s_need_place, [], []⟩
def d_Pairing_enders : He.DefD := ⟨("Pairing", some "enders"), "enders", "Pairing.enders", defArgs s_Pairing_enders, defBody s_Pairing_enders, defScope s_Pairing_enders, [], []⟩
def d_Pairing___init__ : He.DefD := ⟨("Pairing", some "__init__"), "__init__", "Pairing.__init__", defArgs s_Pairing___init__, defBody s_Pairing___init__, defScope s_Pairing___init__, [], []⟩
def d_begins : He.DefD := ⟨("begins", none), "begins", "begins", defArgs s_begins, defBody s_begins, defScope s_begins, [], []⟩
def d_ended_by : He.DefD := ⟨("ended_by", none), "ended_by", "ended_by", defArgs s_ended_by, defBody s_ended_by, defScope s_ended_by, [], []⟩
def d_bars : He.DefD := ⟨("bars", none), "bars", "bars", defArgs s_bars, defBody s_bars, defScope s_bars, [], []⟩
def d_lasting : He.DefD := ⟨("lasting", none), "lasting", "lasting", defArgs s_lasting, defBody s_lasting, defScope s_lasting, [], []⟩
def d_showings : He.DefD := ⟨("showings", none), "showings", "showings", defArgs s_showings, defBody s_showings, defScope s_showings, [], []⟩
def d_is_last : He.DefD := ⟨("is_last", none), "is_last", "is_last", defArgs s_is_last, defBody s_is_last, defScope s_is_last, [], []⟩
def d_check : He.DefD := ⟨("check", none), "check", "check", defArgs s_check, defBody s_check, defScope s_check, [], []⟩
def d_Picture___init__ : He.DefD := ⟨("Picture", some "__init__"), "__init__", "Picture.__init__", defArgs s_Picture___init__, defBody s_Picture___init__, defScope s_Picture___init__, [], []⟩
def d_Picture___eq__ : He.DefD := ⟨("Picture", some "__eq__"), "__eq__", "Picture.__eq__", defArgs s_Picture___eq__, defBody s_Picture___eq__, defScope s_Picture___eq__, [], []⟩
def d__law_begun : He.DefD := ⟨("_law_begun", none), "_law_begun", "_law_begun", defArgs s__law_begun, defBody s__law_begun, defScope s__law_begun, [], []⟩
def d__law_next : He.DefD := ⟨("_law_next", none), "_law_next", "_law_next", defArgs s__law_next, defBody s__law_next, defScope s__law_next, [], []⟩
def d__law_names : He.DefD := ⟨("_law_names", none), "_law_names", "_law_names", defArgs s__law_names, defBody s__law_names, defScope s__law_names, [], []⟩
def d_Picture_pairs : He.DefD := ⟨("Picture", some "pairs"), "pairs", "Picture.pairs", defArgs s_Picture_pairs, defBody s_Picture_pairs, defScope s_Picture_pairs, [], []⟩
def d_Picture_with_thing : He.DefD := ⟨("Picture", some "with_thing"), "with_thing", "Picture.with_thing", defArgs s_Picture_with_thing, defBody s_Picture_with_thing, defScope s_Picture_with_thing, [], []⟩
def d_Picture_need_thing : He.DefD := ⟨("Picture", some "need_thing"), "need_thing", "Picture.need_thing", defArgs s_Picture_need_thing, defBody s_Picture_need_thing, defScope s_Picture_need_thing, [], []⟩
def d_Picture_timed : He.DefD := ⟨("Picture", some "timed"), "timed", "Picture.timed", defArgs s_Picture_timed, defBody s_Picture_timed, defScope s_Picture_timed, [], []⟩
def d_Picture_without : He.DefD := ⟨("Picture", some "without"), "without", "Picture.without", defArgs s_Picture_without, defBody s_Picture_without, defScope s_Picture_without, [], []⟩
def d__law_first_right : He.DefD := ⟨("_law_first_right", none), "_law_first_right", "_law_first_right", defArgs s__law_first_right, defBody s__law_first_right, defScope s__law_first_right, [], []⟩
def d__law_second_right : He.DefD := ⟨("_law_second_right", none), "_law_second_right", "_law_second_right", defArgs s__law_second_right, defBody s__law_second_right, defScope s__law_second_right, [], []⟩
def d_law : He.DefD := ⟨("law", none), "law", "law", defArgs s_law, defBody s_law, defScope s_law, [], []⟩
def d_Picture___len__ : He.DefD := ⟨("Picture", some "__len__"), "__len__", "Picture.__len__", defArgs s_Picture___len__, defBody s_Picture___len__, defScope s_Picture___len__, [], []⟩
def hfn0 : List He.DefD := [d_is_word, d_is_number, d_is_among, d_are_rising, d_is_thing, d_is_time, d_need_time, d_sides_of, d_is_timed, d_lacking, d_need_items, d_in_row]
def hfn1 : List He.DefD := [d_need_kind, d_Picture_has, d_is_chain, d_need_chain, d_number_in, d_figures_of, d_chain_of, d_last_of, d_edges, d_edge_of, d_edge, d_is_ring]
def hfn2 : List He.DefD := [d_numbers_there, d_Basis___init__, d_Basis_reduced, d_Basis_take, d_basis_of, d_need_ring, d_filling, d_is_filled, d_Basis_rank, d_holes, d_need_place, d_Pairing_enders]
def hfn3 : List He.DefD := [d_Pairing___init__, d_begins, d_ended_by, d_bars, d_lasting, d_showings, d_is_last, d_check, d_Picture___init__, d_Picture___eq__, d__law_begun, d__law_next]
def hfn4 : List He.DefD := [d__law_names, d_Picture_pairs, d_Picture_with_thing, d_Picture_need_thing, d_Picture_timed, d_Picture_without, d__law_first_right, d__law_second_right, d_law, d_Picture___len__]
def hfn : List He.DefD := hfn0 ++ hfn1 ++ hfn2 ++ hfn3 ++ hfn4
def hfa0 : List He.Fa := [.glo "Picture", .cls "Picture", .mkr "Picture", .meth "Picture" "__len__", .meth "Picture" "__eq__", .meth "Picture" "pairs", .meth "Picture" "has", .meth "Picture" "need_thing", .meth "Picture" "with_thing", .meth "Picture" "without", .meth "Picture" "timed", .glo "Basis"]
def hfa1 : List He.Fa := [.cls "Basis", .mkr "Basis", .meth "Basis" "reduced", .meth "Basis" "take", .meth "Basis" "rank", .glo "Pairing", .cls "Pairing", .mkr "Pairing", .meth "Pairing" "enders", .glo "is_word", .glo "is_number", .glo "is_among"]
def hfa2 : List He.Fa := [.glo "are_rising", .glo "is_thing", .glo "is_time", .glo "need_time", .glo "sides_of", .glo "is_timed", .glo "lacking", .glo "need_items", .glo "in_row", .glo "need_kind", .glo "is_chain", .glo "need_chain"]
def hfa3 : List He.Fa := [.glo "number_in", .glo "figures_of", .glo "chain_of", .glo "last_of", .glo "edges", .glo "edge_of", .glo "edge", .glo "is_ring", .glo "numbers_there", .glo "basis_of", .glo "need_ring", .glo "filling"]
def hfa4 : List He.Fa := [.glo "is_filled", .glo "holes", .glo "need_place", .glo "begins", .glo "ended_by", .glo "bars", .glo "lasting", .glo "showings", .glo "is_last", .glo "check", .glo "_law_begun", .glo "_law_next"]
def hfa5 : List He.Fa := [.glo "_law_names", .glo "_law_first_right", .glo "_law_second_right", .glo "law", .str "LETTERS" "abcdefghijklmnopqrstuvwxyz", .free "all", .free "len", .int "MOST_LETTERS" 8, .free "isinstance", .free "str", .free "bool", .free "int"]
def hfa6 : List He.Fa := [.free "zip", .int "MOST_CORNERS" 3, .free "tuple", .int "MOST_TIME" 40, .free "range", .free "dict", .free "enumerate", .int "MOST_KIND" 2, .noat "Picture" "row", .free "sum", .free "sorted", .noat "Picture" "times"]
def hfa7 : List He.Fa := [.noat "Basis" "kept", .noat "Pairing" "ends", .free "list", .noat "Pairing" "chains", .free "max", .int "MOST_THINGS" 22, .int "MOST_POINTS" 7, .free "any", .free "min"]
def hfa : List He.Fa := hfa0 ++ hfa1 ++ hfa2 ++ hfa3 ++ hfa4 ++ hfa5 ++ hfa6 ++ hfa7
def exK (K : PySem.W.Frag) : Bool := (isB K "Picture") && (eqB K "Picture")
abbrev hR : PySem.W.OpenRow := PySem.W.OpenLaw.row PySem.Challenge.rw_holebirth_k71_calls_by_names
abbrev hkE : PySem.W.Hook := hookE 5 hfa hfn exK
def obE (s : PySem.W.SharedT) : AlE := obsE 5 hfa hfn exK (HandSHeadRun.getT s)
theorem obE_eq (s : PySem.W.SharedT) : obE s = hkE.obs s.abs := obsE_eq (HandSHeadRun.getT_eq s)
def lnames0 : List PySem.Str := [("HoleError" : PySem.Str), ("BadThings" : PySem.Str), ("BadChain" : PySem.Str), ("BadNumber" : PySem.Str), ("BadPaper" : PySem.Str), ("MOST_THINGS" : PySem.Str), ("MOST_POINTS" : PySem.Str), ("MOST_TIME" : PySem.Str), ("MOST_LETTERS" : PySem.Str), ("MOST_CORNERS" : PySem.Str), ("LETTERS" : PySem.Str), ("is_word" : PySem.Str)]
def lnames1 : List PySem.Str := [("is_number" : PySem.Str), ("is_among" : PySem.Str), ("are_rising" : PySem.Str), ("is_thing" : PySem.Str), ("is_time" : PySem.Str), ("need_time" : PySem.Str), ("sides_of" : PySem.Str), ("is_timed" : PySem.Str), ("lacking" : PySem.Str), ("need_items" : PySem.Str), ("in_row" : PySem.Str), ("Picture" : PySem.Str)]
def lnames2 : List PySem.Str := [("MOST_KIND" : PySem.Str), ("need_kind" : PySem.Str), ("is_chain" : PySem.Str), ("need_chain" : PySem.Str), ("number_in" : PySem.Str), ("figures_of" : PySem.Str), ("chain_of" : PySem.Str), ("last_of" : PySem.Str), ("edges" : PySem.Str), ("edge_of" : PySem.Str), ("edge" : PySem.Str), ("is_ring" : PySem.Str)]
def lnames3 : List PySem.Str := [("numbers_there" : PySem.Str), ("Basis" : PySem.Str), ("basis_of" : PySem.Str), ("need_ring" : PySem.Str), ("filling" : PySem.Str), ("is_filled" : PySem.Str), ("holes" : PySem.Str), ("Pairing" : PySem.Str), ("need_place" : PySem.Str), ("begins" : PySem.Str), ("ended_by" : PySem.Str), ("bars" : PySem.Str)]
def lnames4 : List PySem.Str := [("lasting" : PySem.Str), ("showings" : PySem.Str), ("is_last" : PySem.Str), ("check" : PySem.Str), ("_law_begun" : PySem.Str), ("_law_next" : PySem.Str), ("_law_names" : PySem.Str), ("_law_first_right" : PySem.Str), ("_law_second_right" : PySem.Str)]
def lnames : List PySem.Str := lnames0 ++ lnames1 ++ lnames2 ++ lnames3 ++ lnames4
theorem hrun (w : World) : HandSHeadRun.RunEq hR (PySem.W.view hR.prog [62]) hkE obE 4000 lnames w := by
  intro os
  kernel_rfl
end DL
end

section
set_option Elab.async false
set_option linter.all false
set_option maxRecDepth 100000
set_option autoImplicit false
set_option maxHeartbeats 4000000
namespace DL
open PySem PySem.Spec PyProof.Rows L2
section
variable {P : Program} {w : World} {K : PySem.W.Frag} {h base : Heap} {mg : Str → Option Value}
theorem law_ok (X : K.In h) (G : h.Ns mainGlobals mg) (c : He.SaysD hfa hfn K) (ce : exK K = true) : ∃ fd, FunD K "law" "law" (defArgs s_law) (defBody s_law) (defScope s_law) [] [] (He.ga K "law") fd ∧ FnOk P w K mg base (L2.CX P w) 12 (He.ga K "law") fd ["_law_script"] (spG ⟨K, He.ga K, none⟩ g_law) := by
  have ce0 := ce
  simp only [exK, Bool.and_eq_true] at ce0
  have I_Picture : IsC K mg (He.ga K) "Picture" := isB_ok ce0.1 (He.glo_ok X G (c.fact 0 rfl)) (He.cls_ok (c.fact 1 rfl))
  have xE_Picture := eqB_ok ce0.2
  have K_LETTERS : GC mg "LETTERS" (.str "abcdefghijklmnopqrstuvwxyz") := ⟨_, (He.str_ok X G (c.fact 64 rfl)).choose_spec, ⟨_, rfl⟩⟩
  have B_all : mg "all" = none := He.free_ok X G (c.fact 65 rfl)
  have B_len : mg "len" = none := He.free_ok X G (c.fact 66 rfl)
  have K_MOST_LETTERS : GC mg "MOST_LETTERS" (.int 8) := ⟨_, (He.int_ok X G (c.fact 67 rfl)).choose_spec, ⟨_, rfl⟩⟩
  have B_isinstance : mg "isinstance" = none := He.free_ok X G (c.fact 68 rfl)
  have B_str : mg "str" = none := He.free_ok X G (c.fact 69 rfl)
  have B_bool : mg "bool" = none := He.free_ok X G (c.fact 70 rfl)
  have B_int : mg "int" = none := He.free_ok X G (c.fact 71 rfl)
  have B_zip : mg "zip" = none := He.free_ok X G (c.fact 72 rfl)
  have K_MOST_CORNERS : GC mg "MOST_CORNERS" (.int 3) := ⟨_, (He.int_ok X G (c.fact 73 rfl)).choose_spec, ⟨_, rfl⟩⟩
  have B_tuple : mg "tuple" = none := He.free_ok X G (c.fact 74 rfl)
  have K_MOST_TIME : GC mg "MOST_TIME" (.int 40) := ⟨_, (He.int_ok X G (c.fact 75 rfl)).choose_spec, ⟨_, rfl⟩⟩
  have B_range : mg "range" = none := He.free_ok X G (c.fact 76 rfl)
  have B_dict : mg "dict" = none := He.free_ok X G (c.fact 77 rfl)
  have B_enumerate : mg "enumerate" = none := He.free_ok X G (c.fact 78 rfl)
  have K_MOST_KIND : GC mg "MOST_KIND" (.int 2) := ⟨_, (He.int_ok X G (c.fact 79 rfl)).choose_spec, ⟨_, rfl⟩⟩
  have A_Picture_row : AttrOk ⟨K, He.ga K, none⟩ "Picture" "row" := ⟨He.cls_ok (c.fact 1 rfl), He.noat_ok (c.fact 80 rfl)⟩
  have B_sum : mg "sum" = none := He.free_ok X G (c.fact 81 rfl)
  have B_sorted : mg "sorted" = none := He.free_ok X G (c.fact 82 rfl)
  have A_Picture_times : AttrOk ⟨K, He.ga K, none⟩ "Picture" "times" := ⟨He.cls_ok (c.fact 1 rfl), He.noat_ok (c.fact 83 rfl)⟩
  have A_Basis_kept : AttrOk ⟨K, He.ga K, none⟩ "Basis" "kept" := ⟨He.cls_ok (c.fact 12 rfl), He.noat_ok (c.fact 84 rfl)⟩
  have A_Pairing_ends : AttrOk ⟨K, He.ga K, none⟩ "Pairing" "ends" := ⟨He.cls_ok (c.fact 18 rfl), He.noat_ok (c.fact 85 rfl)⟩
  have B_list : mg "list" = none := He.free_ok X G (c.fact 86 rfl)
  have A_Pairing_chains : AttrOk ⟨K, He.ga K, none⟩ "Pairing" "chains" := ⟨He.cls_ok (c.fact 18 rfl), He.noat_ok (c.fact 87 rfl)⟩
  have B_max : mg "max" = none := He.free_ok X G (c.fact 88 rfl)
  have K_MOST_THINGS : GC mg "MOST_THINGS" (.int 22) := ⟨_, (He.int_ok X G (c.fact 89 rfl)).choose_spec, ⟨_, rfl⟩⟩
  have K_MOST_POINTS : GC mg "MOST_POINTS" (.int 7) := ⟨_, (He.int_ok X G (c.fact 90 rfl)).choose_spec, ⟨_, rfl⟩⟩
  have B_any : mg "any" = none := He.free_ok X G (c.fact 91 rfl)
  have B_min : mg "min" = none := He.free_ok X G (c.fact 92 rfl)
  obtain ⟨fd_is_word, F_is_word⟩ := c.def_ 0 (d := d_is_word) rfl
  have O_is_word : FnOk P w K mg base (L2.CX P w) 1 _ fd_is_word ["thing"] (spG ⟨K, He.ga K, none⟩ g_is_word) := ok_is_word F_is_word K_LETTERS B_all B_len K_MOST_LETTERS B_isinstance B_str
  have b_is_word : Binds K fd_is_word ["thing"] [] := FunD.bindsN (ps := ["thing"]) F_is_word fun _ _ _ _ _ _ us hl => match us, hl with | [_], _ => rfl
  have C_is_word : FnC P w K mg base (He.ga K) "is_word" 1 g_is_word := ⟨_, fd_is_word, ["thing"], O_is_word, He.glo_ok X G (c.fact 21 rfl), F_is_word.kp, b_is_word⟩
  obtain ⟨fd_is_number, F_is_number⟩ := c.def_ 1 (d := d_is_number) rfl
  have O_is_number : FnOk P w K mg base (L2.CX P w) 1 _ fd_is_number ["thing"] (spG ⟨K, He.ga K, none⟩ g_is_number) := ok_is_number F_is_number B_isinstance B_bool B_int
  have b_is_number : Binds K fd_is_number ["thing"] [] := FunD.bindsN (ps := ["thing"]) F_is_number fun _ _ _ _ _ _ us hl => match us, hl with | [_], _ => rfl
  have C_is_number : FnC P w K mg base (He.ga K) "is_number" 1 g_is_number := ⟨_, fd_is_number, ["thing"], O_is_number, He.glo_ok X G (c.fact 22 rfl), F_is_number.kp, b_is_number⟩
  obtain ⟨fd_is_among, F_is_among⟩ := c.def_ 2 (d := d_is_among) rfl
  have O_is_among : FnOk P w K mg base (L2.CX P w) 2 _ fd_is_among ["thing", "least", "most"] (spG ⟨K, He.ga K, none⟩ g_is_among) := ok_is_among F_is_among C_is_number
  have b_is_among : Binds K fd_is_among ["thing", "least", "most"] [] := FunD.bindsN (ps := ["thing", "least", "most"]) F_is_among fun _ _ _ _ _ _ us hl => match us, hl with | [_, _, _], _ => rfl
  have C_is_among : FnC P w K mg base (He.ga K) "is_among" 2 g_is_among := ⟨_, fd_is_among, ["thing", "least", "most"], O_is_among, He.glo_ok X G (c.fact 23 rfl), F_is_among.kp, b_is_among⟩
  obtain ⟨fd_are_rising, F_are_rising⟩ := c.def_ 3 (d := d_are_rising) rfl
  have O_are_rising : FnOk P w K mg base (L2.CX P w) 1 _ fd_are_rising ["items"] (spG ⟨K, He.ga K, none⟩ g_are_rising) := ok_are_rising F_are_rising B_zip B_all
  have b_are_rising : Binds K fd_are_rising ["items"] [] := FunD.bindsN (ps := ["items"]) F_are_rising fun _ _ _ _ _ _ us hl => match us, hl with | [_], _ => rfl
  have C_are_rising : FnC P w K mg base (He.ga K) "are_rising" 1 g_are_rising := ⟨_, fd_are_rising, ["items"], O_are_rising, He.glo_ok X G (c.fact 24 rfl), F_are_rising.kp, b_are_rising⟩
  obtain ⟨fd_is_thing, F_is_thing⟩ := c.def_ 4 (d := d_is_thing) rfl
  have O_is_thing : FnOk P w K mg base (L2.CX P w) 2 _ fd_is_thing ["thing"] (spG ⟨K, He.ga K, none⟩ g_is_thing) := ok_is_thing F_is_thing B_len K_MOST_CORNERS B_isinstance B_tuple C_are_rising C_is_word B_all
  have b_is_thing : Binds K fd_is_thing ["thing"] [] := FunD.bindsN (ps := ["thing"]) F_is_thing fun _ _ _ _ _ _ us hl => match us, hl with | [_], _ => rfl
  have C_is_thing : FnC P w K mg base (He.ga K) "is_thing" 2 g_is_thing := ⟨_, fd_is_thing, ["thing"], O_is_thing, He.glo_ok X G (c.fact 25 rfl), F_is_thing.kp, b_is_thing⟩
  obtain ⟨fd_is_time, F_is_time⟩ := c.def_ 5 (d := d_is_time) rfl
  have O_is_time : FnOk P w K mg base (L2.CX P w) 3 _ fd_is_time ["thing"] (spG ⟨K, He.ga K, none⟩ g_is_time) := ok_is_time F_is_time C_is_among K_MOST_TIME
  have b_is_time : Binds K fd_is_time ["thing"] [] := FunD.bindsN (ps := ["thing"]) F_is_time fun _ _ _ _ _ _ us hl => match us, hl with | [_], _ => rfl
  have C_is_time : FnC P w K mg base (He.ga K) "is_time" 3 g_is_time := ⟨_, fd_is_time, ["thing"], O_is_time, He.glo_ok X G (c.fact 26 rfl), F_is_time.kp, b_is_time⟩
  obtain ⟨fd_need_time, F_need_time⟩ := c.def_ 6 (d := d_need_time) rfl
  have O_need_time : FnOk P w K mg base (L2.CX P w) 4 _ fd_need_time ["time"] (spG ⟨K, He.ga K, none⟩ g_need_time) := ok_need_time F_need_time C_is_time
  have b_need_time : Binds K fd_need_time ["time"] [] := FunD.bindsN (ps := ["time"]) F_need_time fun _ _ _ _ _ _ us hl => match us, hl with | [_], _ => rfl
  have C_need_time : FnC P w K mg base (He.ga K) "need_time" 4 g_need_time := ⟨_, fd_need_time, ["time"], O_need_time, He.glo_ok X G (c.fact 27 rfl), F_need_time.kp, b_need_time⟩
  obtain ⟨fd_sides_of, F_sides_of⟩ := c.def_ 7 (d := d_sides_of) rfl
  have O_sides_of : FnOk P w K mg base (L2.CX P w) 1 _ fd_sides_of ["thing"] (spG ⟨K, He.ga K, none⟩ g_sides_of) := ok_sides_of F_sides_of B_len B_range
  have b_sides_of : Binds K fd_sides_of ["thing"] [] := FunD.bindsN (ps := ["thing"]) F_sides_of fun _ _ _ _ _ _ us hl => match us, hl with | [_], _ => rfl
  have C_sides_of : FnC P w K mg base (He.ga K) "sides_of" 1 g_sides_of := ⟨_, fd_sides_of, ["thing"], O_sides_of, He.glo_ok X G (c.fact 28 rfl), F_sides_of.kp, b_sides_of⟩
  obtain ⟨fd_is_timed, F_is_timed⟩ := c.def_ 8 (d := d_is_timed) rfl
  have O_is_timed : FnOk P w K mg base (L2.CX P w) 4 _ fd_is_timed ["thing"] (spG ⟨K, He.ga K, none⟩ g_is_timed) := ok_is_timed F_is_timed C_is_time C_is_thing B_len B_isinstance B_tuple
  have b_is_timed : Binds K fd_is_timed ["thing"] [] := FunD.bindsN (ps := ["thing"]) F_is_timed fun _ _ _ _ _ _ us hl => match us, hl with | [_], _ => rfl
  have C_is_timed : FnC P w K mg base (He.ga K) "is_timed" 4 g_is_timed := ⟨_, fd_is_timed, ["thing"], O_is_timed, He.glo_ok X G (c.fact 29 rfl), F_is_timed.kp, b_is_timed⟩
  obtain ⟨fd_lacking, F_lacking⟩ := c.def_ 9 (d := d_lacking) rfl
  have O_lacking : FnOk P w K mg base (L2.CX P w) 2 _ fd_lacking ["pairs"] (spG ⟨K, He.ga K, none⟩ g_lacking) := ok_lacking F_lacking B_dict C_sides_of B_all
  have b_lacking : Binds K fd_lacking ["pairs"] [] := FunD.bindsN (ps := ["pairs"]) F_lacking fun _ _ _ _ _ _ us hl => match us, hl with | [_], _ => rfl
  have C_lacking : FnC P w K mg base (He.ga K) "lacking" 2 g_lacking := ⟨_, fd_lacking, ["pairs"], O_lacking, He.glo_ok X G (c.fact 30 rfl), F_lacking.kp, b_lacking⟩
  obtain ⟨fd_need_items, F_need_items⟩ := c.def_ 10 (d := d_need_items) rfl
  have O_need_items : FnOk P w K mg base (L2.CX P w) 5 _ fd_need_items ["things"] (spG ⟨K, He.ga K, none⟩ g_need_items) := ok_need_items F_need_items B_enumerate C_is_timed
  have b_need_items : Binds K fd_need_items ["things"] [] := FunD.bindsN (ps := ["things"]) F_need_items fun _ _ _ _ _ _ us hl => match us, hl with | [_], _ => rfl
  have C_need_items : FnC P w K mg base (He.ga K) "need_items" 5 g_need_items := ⟨_, fd_need_items, ["things"], O_need_items, He.glo_ok X G (c.fact 31 rfl), F_need_items.kp, b_need_items⟩
  obtain ⟨fd_in_row, F_in_row⟩ := c.def_ 11 (d := d_in_row) rfl
  have O_in_row : FnOk P w K mg base (L2.CX P w) 1 _ fd_in_row ["item"] (spG ⟨K, He.ga K, none⟩ g_in_row) := ok_in_row F_in_row B_len
  have b_in_row : Binds K fd_in_row ["item"] [] := FunD.bindsN (ps := ["item"]) F_in_row fun _ _ _ _ _ _ us hl => match us, hl with | [_], _ => rfl
  have C_in_row : FnC P w K mg base (He.ga K) "in_row" 1 g_in_row := ⟨_, fd_in_row, ["item"], O_in_row, He.glo_ok X G (c.fact 32 rfl), F_in_row.kp, b_in_row⟩
  obtain ⟨fd_need_kind, F_need_kind⟩ := c.def_ 12 (d := d_need_kind) rfl
  have O_need_kind : FnOk P w K mg base (L2.CX P w) 3 _ fd_need_kind ["kind"] (spG ⟨K, He.ga K, none⟩ g_need_kind) := ok_need_kind F_need_kind C_is_among K_MOST_KIND
  have b_need_kind : Binds K fd_need_kind ["kind"] [] := FunD.bindsN (ps := ["kind"]) F_need_kind fun _ _ _ _ _ _ us hl => match us, hl with | [_], _ => rfl
  have C_need_kind : FnC P w K mg base (He.ga K) "need_kind" 3 g_need_kind := ⟨_, fd_need_kind, ["kind"], O_need_kind, He.glo_ok X G (c.fact 33 rfl), F_need_kind.kp, b_need_kind⟩
  obtain ⟨fd_Picture_has, F_Picture_has⟩ := c.def_ 13 (d := d_Picture_has) rfl
  have O_Picture_has : FnOk P w K mg base (L2.CX P w) 3 _ fd_Picture_has ["self", "thing"] (spG ⟨K, He.ga K, none⟩ g_Picture_has) := ok_Picture_has F_Picture_has A_Picture_row C_is_thing
  have b_Picture_has : Binds K fd_Picture_has ["self", "thing"] [] := FunD.bindsN (ps := ["self", "thing"]) F_Picture_has fun _ _ _ _ _ _ us hl => match us, hl with | [_, _], _ => rfl
  have T_Picture_has : MetC P w K mg base (He.ga K) "Picture" "has" 3 g_Picture_has := ⟨_, fd_Picture_has, ["self", "thing"], He.cls_ok (c.fact 1 rfl), He.meth_ok (c.fact 6 rfl), O_Picture_has, b_Picture_has⟩
  obtain ⟨fd_is_chain, F_is_chain⟩ := c.def_ 14 (d := d_is_chain) rfl
  have O_is_chain : FnOk P w K mg base (L2.CX P w) 4 _ fd_is_chain ["picture", "thing"] (spG ⟨K, He.ga K, none⟩ g_is_chain) := ok_is_chain F_is_chain T_Picture_has B_all B_isinstance B_tuple B_len C_are_rising
  have b_is_chain : Binds K fd_is_chain ["picture", "thing"] [] := FunD.bindsN (ps := ["picture", "thing"]) F_is_chain fun _ _ _ _ _ _ us hl => match us, hl with | [_, _], _ => rfl
  have C_is_chain : FnC P w K mg base (He.ga K) "is_chain" 4 g_is_chain := ⟨_, fd_is_chain, ["picture", "thing"], O_is_chain, He.glo_ok X G (c.fact 34 rfl), F_is_chain.kp, b_is_chain⟩
  have Q_is_chain_thing_picture : FnK P w K mg base (He.ga K) "is_chain" 4 g_is_chain ["thing", "picture"] [1, 0] := ⟨_, fd_is_chain, ["picture", "thing"], O_is_chain, He.glo_ok X G (c.fact 34 rfl), F_is_chain.kp, kbindsN F_is_chain 0 ["thing", "picture"] [1, 0] fun _ _ _ _ _ _ us ws hl hw => match us, ws, hl, hw with | [], [_, _], _, _ => rfl⟩
  obtain ⟨fd_need_chain, F_need_chain⟩ := c.def_ 15 (d := d_need_chain) rfl
  have O_need_chain : FnOk P w K mg base (L2.CX P w) 5 _ fd_need_chain ["picture", "chain"] (spG ⟨K, He.ga K, none⟩ g_need_chain) := ok_need_chain F_need_chain C_is_chain
  have b_need_chain : Binds K fd_need_chain ["picture", "chain"] [] := FunD.bindsN (ps := ["picture", "chain"]) F_need_chain fun _ _ _ _ _ _ us hl => match us, hl with | [_, _], _ => rfl
  have C_need_chain : FnC P w K mg base (He.ga K) "need_chain" 5 g_need_chain := ⟨_, fd_need_chain, ["picture", "chain"], O_need_chain, He.glo_ok X G (c.fact 35 rfl), F_need_chain.kp, b_need_chain⟩
  obtain ⟨fd_number_in, F_number_in⟩ := c.def_ 16 (d := d_number_in) rfl
  have O_number_in : FnOk P w K mg base (L2.CX P w) 1 _ fd_number_in ["picture", "thing"] (spG ⟨K, He.ga K, none⟩ g_number_in) := ok_number_in F_number_in A_Picture_row
  have b_number_in : Binds K fd_number_in ["picture", "thing"] [] := FunD.bindsN (ps := ["picture", "thing"]) F_number_in fun _ _ _ _ _ _ us hl => match us, hl with | [_, _], _ => rfl
  have C_number_in : FnC P w K mg base (He.ga K) "number_in" 1 g_number_in := ⟨_, fd_number_in, ["picture", "thing"], O_number_in, He.glo_ok X G (c.fact 36 rfl), F_number_in.kp, b_number_in⟩
  obtain ⟨fd_figures_of, F_figures_of⟩ := c.def_ 17 (d := d_figures_of) rfl
  have O_figures_of : FnOk P w K mg base (L2.CX P w) 2 _ fd_figures_of ["picture", "chain"] (spG ⟨K, He.ga K, none⟩ g_figures_of) := ok_figures_of F_figures_of C_number_in B_sum
  have b_figures_of : Binds K fd_figures_of ["picture", "chain"] [] := FunD.bindsN (ps := ["picture", "chain"]) F_figures_of fun _ _ _ _ _ _ us hl => match us, hl with | [_, _], _ => rfl
  have C_figures_of : FnC P w K mg base (He.ga K) "figures_of" 2 g_figures_of := ⟨_, fd_figures_of, ["picture", "chain"], O_figures_of, He.glo_ok X G (c.fact 37 rfl), F_figures_of.kp, b_figures_of⟩
  obtain ⟨fd_chain_of, F_chain_of⟩ := c.def_ 18 (d := d_chain_of) rfl
  have O_chain_of : FnOk P w K mg base (L2.CX P w) 1 _ fd_chain_of ["picture", "figures"] (spG ⟨K, He.ga K, none⟩ g_chain_of) := ok_chain_of F_chain_of B_enumerate A_Picture_row B_sorted B_tuple
  have b_chain_of : Binds K fd_chain_of ["picture", "figures"] [] := FunD.bindsN (ps := ["picture", "figures"]) F_chain_of fun _ _ _ _ _ _ us hl => match us, hl with | [_, _], _ => rfl
  have C_chain_of : FnC P w K mg base (He.ga K) "chain_of" 1 g_chain_of := ⟨_, fd_chain_of, ["picture", "figures"], O_chain_of, He.glo_ok X G (c.fact 38 rfl), F_chain_of.kp, b_chain_of⟩
  obtain ⟨fd_last_of, F_last_of⟩ := c.def_ 19 (d := d_last_of) rfl
  have O_last_of : FnOk P w K mg base (L2.CX P w) 1 _ fd_last_of ["figures"] (spG ⟨K, He.ga K, none⟩ g_last_of) := ok_last_of F_last_of 
  have b_last_of : Binds K fd_last_of ["figures"] [] := FunD.bindsN (ps := ["figures"]) F_last_of fun _ _ _ _ _ _ us hl => match us, hl with | [_], _ => rfl
  have C_last_of : FnC P w K mg base (He.ga K) "last_of" 1 g_last_of := ⟨_, fd_last_of, ["figures"], O_last_of, He.glo_ok X G (c.fact 39 rfl), F_last_of.kp, b_last_of⟩
  obtain ⟨fd_edges, F_edges⟩ := c.def_ 20 (d := d_edges) rfl
  have O_edges : FnOk P w K mg base (L2.CX P w) 3 _ fd_edges ["picture"] (spG ⟨K, He.ga K, none⟩ g_edges) := ok_edges F_edges A_Picture_row C_figures_of C_sides_of
  have b_edges : Binds K fd_edges ["picture"] [] := FunD.bindsN (ps := ["picture"]) F_edges fun _ _ _ _ _ _ us hl => match us, hl with | [_], _ => rfl
  have C_edges : FnC P w K mg base (He.ga K) "edges" 3 g_edges := ⟨_, fd_edges, ["picture"], O_edges, He.glo_ok X G (c.fact 40 rfl), F_edges.kp, b_edges⟩
  obtain ⟨fd_edge_of, F_edge_of⟩ := c.def_ 21 (d := d_edge_of) rfl
  have O_edge_of : FnOk P w K mg base (L2.CX P w) 4 _ fd_edge_of ["picture", "figures"] (spG ⟨K, He.ga K, none⟩ g_edge_of) := ok_edge_of F_edge_of B_enumerate C_edges
  have b_edge_of : Binds K fd_edge_of ["picture", "figures"] [] := FunD.bindsN (ps := ["picture", "figures"]) F_edge_of fun _ _ _ _ _ _ us hl => match us, hl with | [_, _], _ => rfl
  have C_edge_of : FnC P w K mg base (He.ga K) "edge_of" 4 g_edge_of := ⟨_, fd_edge_of, ["picture", "figures"], O_edge_of, He.glo_ok X G (c.fact 41 rfl), F_edge_of.kp, b_edge_of⟩
  obtain ⟨fd_edge, F_edge⟩ := c.def_ 22 (d := d_edge) rfl
  have O_edge : FnOk P w K mg base (L2.CX P w) 6 _ fd_edge ["picture", "chain"] (spG ⟨K, He.ga K, none⟩ g_edge) := ok_edge F_edge C_need_chain C_chain_of C_edge_of C_figures_of
  have b_edge : Binds K fd_edge ["picture", "chain"] [] := FunD.bindsN (ps := ["picture", "chain"]) F_edge fun _ _ _ _ _ _ us hl => match us, hl with | [_, _], _ => rfl
  have C_edge : FnC P w K mg base (He.ga K) "edge" 6 g_edge := ⟨_, fd_edge, ["picture", "chain"], O_edge, He.glo_ok X G (c.fact 42 rfl), F_edge.kp, b_edge⟩
  have Q_edge_chain_picture : FnK P w K mg base (He.ga K) "edge" 6 g_edge ["chain", "picture"] [1, 0] := ⟨_, fd_edge, ["picture", "chain"], O_edge, He.glo_ok X G (c.fact 42 rfl), F_edge.kp, kbindsN F_edge 0 ["chain", "picture"] [1, 0] fun _ _ _ _ _ _ us ws hl hw => match us, ws, hl, hw with | [], [_, _], _, _ => rfl⟩
  obtain ⟨fd_is_ring, F_is_ring⟩ := c.def_ 23 (d := d_is_ring) rfl
  have O_is_ring : FnOk P w K mg base (L2.CX P w) 7 _ fd_is_ring ["picture", "chain"] (spG ⟨K, He.ga K, none⟩ g_is_ring) := ok_is_ring F_is_ring C_edge
  have b_is_ring : Binds K fd_is_ring ["picture", "chain"] [] := FunD.bindsN (ps := ["picture", "chain"]) F_is_ring fun _ _ _ _ _ _ us hl => match us, hl with | [_, _], _ => rfl
  have C_is_ring : FnC P w K mg base (He.ga K) "is_ring" 7 g_is_ring := ⟨_, fd_is_ring, ["picture", "chain"], O_is_ring, He.glo_ok X G (c.fact 43 rfl), F_is_ring.kp, b_is_ring⟩
  have Q_is_ring_chain_picture : FnK P w K mg base (He.ga K) "is_ring" 7 g_is_ring ["chain", "picture"] [1, 0] := ⟨_, fd_is_ring, ["picture", "chain"], O_is_ring, He.glo_ok X G (c.fact 43 rfl), F_is_ring.kp, kbindsN F_is_ring 0 ["chain", "picture"] [1, 0] fun _ _ _ _ _ _ us ws hl hw => match us, ws, hl, hw with | [], [_, _], _, _ => rfl⟩
  obtain ⟨fd_numbers_there, F_numbers_there⟩ := c.def_ 24 (d := d_numbers_there) rfl
  have O_numbers_there : FnOk P w K mg base (L2.CX P w) 1 _ fd_numbers_there ["picture", "kind", "time"] (spG ⟨K, He.ga K, none⟩ g_numbers_there) := ok_numbers_there F_numbers_there B_enumerate A_Picture_row A_Picture_times B_len
  have b_numbers_there : Binds K fd_numbers_there ["picture", "kind", "time"] [] := FunD.bindsN (ps := ["picture", "kind", "time"]) F_numbers_there fun _ _ _ _ _ _ us hl => match us, hl with | [_, _, _], _ => rfl
  have C_numbers_there : FnC P w K mg base (He.ga K) "numbers_there" 1 g_numbers_there := ⟨_, fd_numbers_there, ["picture", "kind", "time"], O_numbers_there, He.glo_ok X G (c.fact 44 rfl), F_numbers_there.kp, b_numbers_there⟩
  obtain ⟨fd_Basis___init__, F_Basis___init__⟩ := c.def_ 25 (d := d_Basis___init__) rfl
  have O_Basis___init__ : FnOk P w K mg base (L2.CX P w) 1 _ fd_Basis___init__ ["self"] (spG ⟨K, He.ga K, none⟩ g_Basis___init__) := ok_Basis___init__ F_Basis___init__ A_Basis_kept
  have b_Basis___init__ : Binds K fd_Basis___init__ ["self"] [] := FunD.bindsN (ps := ["self"]) F_Basis___init__ fun _ _ _ _ _ _ us hl => match us, hl with | [_], _ => rfl
  have M_Basis : MkC P w K mg base (He.ga K) "Basis" 1 g_Basis___init__ := ⟨_, fd_Basis___init__, ["self"], He.glo_ok X G (c.fact 11 rfl), He.mkr_ok (c.fact 13 rfl), O_Basis___init__, b_Basis___init__⟩
  obtain ⟨fd_Basis_reduced, F_Basis_reduced⟩ := c.def_ 26 (d := d_Basis_reduced) rfl
  have O_Basis_reduced : FnOk P w K mg base (L2.CX P w) 2 _ fd_Basis_reduced ["self", "figures", "chain"] (spG ⟨K, He.ga K, none⟩ g_Basis_reduced) := ok_Basis_reduced F_Basis_reduced A_Basis_kept C_last_of
  have b_Basis_reduced : Binds K fd_Basis_reduced ["self", "figures", "chain"] [] := FunD.bindsN (ps := ["self", "figures", "chain"]) F_Basis_reduced fun _ _ _ _ _ _ us hl => match us, hl with | [_, _, _], _ => rfl
  have T_Basis_reduced : MetC P w K mg base (He.ga K) "Basis" "reduced" 2 g_Basis_reduced := ⟨_, fd_Basis_reduced, ["self", "figures", "chain"], He.cls_ok (c.fact 12 rfl), He.meth_ok (c.fact 14 rfl), O_Basis_reduced, b_Basis_reduced⟩
  obtain ⟨fd_Basis_take, F_Basis_take⟩ := c.def_ 27 (d := d_Basis_take) rfl
  have O_Basis_take : FnOk P w K mg base (L2.CX P w) 3 _ fd_Basis_take ["self", "figures", "chain"] (spG ⟨K, He.ga K, none⟩ g_Basis_take) := ok_Basis_take F_Basis_take T_Basis_reduced C_last_of A_Basis_kept
  have b_Basis_take : Binds K fd_Basis_take ["self", "figures", "chain"] [] := FunD.bindsN (ps := ["self", "figures", "chain"]) F_Basis_take fun _ _ _ _ _ _ us hl => match us, hl with | [_, _, _], _ => rfl
  have T_Basis_take : MetC P w K mg base (He.ga K) "Basis" "take" 3 g_Basis_take := ⟨_, fd_Basis_take, ["self", "figures", "chain"], He.cls_ok (c.fact 12 rfl), He.meth_ok (c.fact 15 rfl), O_Basis_take, b_Basis_take⟩
  obtain ⟨fd_basis_of, F_basis_of⟩ := c.def_ 28 (d := d_basis_of) rfl
  have O_basis_of : FnOk P w K mg base (L2.CX P w) 4 _ fd_basis_of ["picture", "numbers"] (spG ⟨K, He.ga K, none⟩ g_basis_of) := ok_basis_of F_basis_of C_edges M_Basis T_Basis_take
  have b_basis_of : Binds K fd_basis_of ["picture", "numbers"] [] := FunD.bindsN (ps := ["picture", "numbers"]) F_basis_of fun _ _ _ _ _ _ us hl => match us, hl with | [_, _], _ => rfl
  have C_basis_of : FnC P w K mg base (He.ga K) "basis_of" 4 g_basis_of := ⟨_, fd_basis_of, ["picture", "numbers"], O_basis_of, He.glo_ok X G (c.fact 45 rfl), F_basis_of.kp, b_basis_of⟩
  obtain ⟨fd_need_ring, F_need_ring⟩ := c.def_ 29 (d := d_need_ring) rfl
  have O_need_ring : FnOk P w K mg base (L2.CX P w) 6 _ fd_need_ring ["picture", "chain"] (spG ⟨K, He.ga K, none⟩ g_need_ring) := ok_need_ring F_need_ring C_need_chain C_edge_of C_figures_of
  have b_need_ring : Binds K fd_need_ring ["picture", "chain"] [] := FunD.bindsN (ps := ["picture", "chain"]) F_need_ring fun _ _ _ _ _ _ us hl => match us, hl with | [_, _], _ => rfl
  have C_need_ring : FnC P w K mg base (He.ga K) "need_ring" 6 g_need_ring := ⟨_, fd_need_ring, ["picture", "chain"], O_need_ring, He.glo_ok X G (c.fact 46 rfl), F_need_ring.kp, b_need_ring⟩
  obtain ⟨fd_filling, F_filling⟩ := c.def_ 30 (d := d_filling) rfl
  have O_filling : FnOk P w K mg base (L2.CX P w) 7 _ fd_filling ["picture", "chain", "time"] (spG ⟨K, He.ga K, none⟩ g_filling) := ok_filling F_filling C_need_ring C_need_time C_basis_of C_numbers_there B_len T_Basis_reduced C_figures_of C_chain_of
  have b_filling : Binds K fd_filling ["picture", "chain", "time"] [] := FunD.bindsN (ps := ["picture", "chain", "time"]) F_filling fun _ _ _ _ _ _ us hl => match us, hl with | [_, _, _], _ => rfl
  have C_filling : FnC P w K mg base (He.ga K) "filling" 7 g_filling := ⟨_, fd_filling, ["picture", "chain", "time"], O_filling, He.glo_ok X G (c.fact 47 rfl), F_filling.kp, b_filling⟩
  have Q_filling_time_chain_picture : FnK P w K mg base (He.ga K) "filling" 7 g_filling ["time", "chain", "picture"] [2, 1, 0] := ⟨_, fd_filling, ["picture", "chain", "time"], O_filling, He.glo_ok X G (c.fact 47 rfl), F_filling.kp, kbindsN F_filling 0 ["time", "chain", "picture"] [2, 1, 0] fun _ _ _ _ _ _ us ws hl hw => match us, ws, hl, hw with | [], [_, _, _], _, _ => rfl⟩
  obtain ⟨fd_is_filled, F_is_filled⟩ := c.def_ 31 (d := d_is_filled) rfl
  have O_is_filled : FnOk P w K mg base (L2.CX P w) 8 _ fd_is_filled ["picture", "chain", "time"] (spG ⟨K, He.ga K, none⟩ g_is_filled) := ok_is_filled F_is_filled C_filling
  have b_is_filled : Binds K fd_is_filled ["picture", "chain", "time"] [] := FunD.bindsN (ps := ["picture", "chain", "time"]) F_is_filled fun _ _ _ _ _ _ us hl => match us, hl with | [_, _, _], _ => rfl
  have C_is_filled : FnC P w K mg base (He.ga K) "is_filled" 8 g_is_filled := ⟨_, fd_is_filled, ["picture", "chain", "time"], O_is_filled, He.glo_ok X G (c.fact 48 rfl), F_is_filled.kp, b_is_filled⟩
  have Q_is_filled_time_chain_picture : FnK P w K mg base (He.ga K) "is_filled" 8 g_is_filled ["time", "chain", "picture"] [2, 1, 0] := ⟨_, fd_is_filled, ["picture", "chain", "time"], O_is_filled, He.glo_ok X G (c.fact 48 rfl), F_is_filled.kp, kbindsN F_is_filled 0 ["time", "chain", "picture"] [2, 1, 0] fun _ _ _ _ _ _ us ws hl hw => match us, ws, hl, hw with | [], [_, _, _], _, _ => rfl⟩
  obtain ⟨fd_Basis_rank, F_Basis_rank⟩ := c.def_ 32 (d := d_Basis_rank) rfl
  have O_Basis_rank : FnOk P w K mg base (L2.CX P w) 1 _ fd_Basis_rank ["self"] (spG ⟨K, He.ga K, none⟩ g_Basis_rank) := ok_Basis_rank F_Basis_rank A_Basis_kept B_len
  have b_Basis_rank : Binds K fd_Basis_rank ["self"] [] := FunD.bindsN (ps := ["self"]) F_Basis_rank fun _ _ _ _ _ _ us hl => match us, hl with | [_], _ => rfl
  have T_Basis_rank : MetC P w K mg base (He.ga K) "Basis" "rank" 1 g_Basis_rank := ⟨_, fd_Basis_rank, ["self"], He.cls_ok (c.fact 12 rfl), He.meth_ok (c.fact 16 rfl), O_Basis_rank, b_Basis_rank⟩
  obtain ⟨fd_holes, F_holes⟩ := c.def_ 33 (d := d_holes) rfl
  have O_holes : FnOk P w K mg base (L2.CX P w) 5 _ fd_holes ["picture", "kind", "time"] (spG ⟨K, He.ga K, none⟩ g_holes) := ok_holes F_holes C_need_kind C_need_time C_numbers_there T_Basis_rank C_basis_of B_len
  have b_holes : Binds K fd_holes ["picture", "kind", "time"] [] := FunD.bindsN (ps := ["picture", "kind", "time"]) F_holes fun _ _ _ _ _ _ us hl => match us, hl with | [_, _, _], _ => rfl
  have C_holes : FnC P w K mg base (He.ga K) "holes" 5 g_holes := ⟨_, fd_holes, ["picture", "kind", "time"], O_holes, He.glo_ok X G (c.fact 49 rfl), F_holes.kp, b_holes⟩
  have Q_holes_time_kind_picture : FnK P w K mg base (He.ga K) "holes" 5 g_holes ["time", "kind", "picture"] [2, 1, 0] := ⟨_, fd_holes, ["picture", "kind", "time"], O_holes, He.glo_ok X G (c.fact 49 rfl), F_holes.kp, kbindsN F_holes 0 ["time", "kind", "picture"] [2, 1, 0] fun _ _ _ _ _ _ us ws hl hw => match us, ws, hl, hw with | [], [_, _, _], _, _ => rfl⟩
  obtain ⟨fd_need_place, F_need_place⟩ := c.def_ 34 (d := d_need_place) rfl
  have O_need_place : FnOk P w K mg base (L2.CX P w) 3 _ fd_need_place ["picture", "number"] (spG ⟨K, He.ga K, none⟩ g_need_place) := ok_need_place F_need_place C_is_among A_Picture_row B_len
  have b_need_place : Binds K fd_need_place ["picture", "number"] [] := FunD.bindsN (ps := ["picture", "number"]) F_need_place fun _ _ _ _ _ _ us hl => match us, hl with | [_, _], _ => rfl
  have C_need_place : FnC P w K mg base (He.ga K) "need_place" 3 g_need_place := ⟨_, fd_need_place, ["picture", "number"], O_need_place, He.glo_ok X G (c.fact 50 rfl), F_need_place.kp, b_need_place⟩
  obtain ⟨fd_Pairing_enders, F_Pairing_enders⟩ := c.def_ 35 (d := d_Pairing_enders) rfl
  have O_Pairing_enders : FnOk P w K mg base (L2.CX P w) 1 _ fd_Pairing_enders ["self"] (spG ⟨K, He.ga K, none⟩ g_Pairing_enders) := ok_Pairing_enders F_Pairing_enders A_Pairing_ends B_list
  have b_Pairing_enders : Binds K fd_Pairing_enders ["self"] [] := FunD.bindsN (ps := ["self"]) F_Pairing_enders fun _ _ _ _ _ _ us hl => match us, hl with | [_], _ => rfl
  have T_Pairing_enders : MetC P w K mg base (He.ga K) "Pairing" "enders" 1 g_Pairing_enders := ⟨_, fd_Pairing_enders, ["self"], He.cls_ok (c.fact 18 rfl), He.meth_ok (c.fact 20 rfl), O_Pairing_enders, b_Pairing_enders⟩
  obtain ⟨fd_Pairing___init__, F_Pairing___init__⟩ := c.def_ 36 (d := d_Pairing___init__) rfl
  have O_Pairing___init__ : FnOk P w K mg base (L2.CX P w) 4 _ fd_Pairing___init__ ["self", "picture"] (spG ⟨K, He.ga K, none⟩ g_Pairing___init__) := ok_Pairing___init__ F_Pairing___init__ B_enumerate C_edges T_Basis_take A_Pairing_chains C_last_of A_Pairing_ends M_Basis
  have b_Pairing___init__ : Binds K fd_Pairing___init__ ["self", "picture"] [] := FunD.bindsN (ps := ["self", "picture"]) F_Pairing___init__ fun _ _ _ _ _ _ us hl => match us, hl with | [_, _], _ => rfl
  have M_Pairing : MkC P w K mg base (He.ga K) "Pairing" 4 g_Pairing___init__ := ⟨_, fd_Pairing___init__, ["self", "picture"], He.glo_ok X G (c.fact 17 rfl), He.mkr_ok (c.fact 19 rfl), O_Pairing___init__, b_Pairing___init__⟩
  obtain ⟨fd_begins, F_begins⟩ := c.def_ 37 (d := d_begins) rfl
  have O_begins : FnOk P w K mg base (L2.CX P w) 6 _ fd_begins ["picture", "number"] (spG ⟨K, He.ga K, none⟩ g_begins) := ok_begins F_begins C_need_place T_Pairing_enders M_Pairing
  have b_begins : Binds K fd_begins ["picture", "number"] [] := FunD.bindsN (ps := ["picture", "number"]) F_begins fun _ _ _ _ _ _ us hl => match us, hl with | [_, _], _ => rfl
  have C_begins : FnC P w K mg base (He.ga K) "begins" 6 g_begins := ⟨_, fd_begins, ["picture", "number"], O_begins, He.glo_ok X G (c.fact 51 rfl), F_begins.kp, b_begins⟩
  have Q_begins_number_picture : FnK P w K mg base (He.ga K) "begins" 6 g_begins ["number", "picture"] [1, 0] := ⟨_, fd_begins, ["picture", "number"], O_begins, He.glo_ok X G (c.fact 51 rfl), F_begins.kp, kbindsN F_begins 0 ["number", "picture"] [1, 0] fun _ _ _ _ _ _ us ws hl hw => match us, ws, hl, hw with | [], [_, _], _, _ => rfl⟩
  obtain ⟨fd_ended_by, F_ended_by⟩ := c.def_ 38 (d := d_ended_by) rfl
  have O_ended_by : FnOk P w K mg base (L2.CX P w) 6 _ fd_ended_by ["picture", "number"] (spG ⟨K, He.ga K, none⟩ g_ended_by) := ok_ended_by F_ended_by C_need_place M_Pairing A_Pairing_ends
  have b_ended_by : Binds K fd_ended_by ["picture", "number"] [] := FunD.bindsN (ps := ["picture", "number"]) F_ended_by fun _ _ _ _ _ _ us hl => match us, hl with | [_, _], _ => rfl
  have C_ended_by : FnC P w K mg base (He.ga K) "ended_by" 6 g_ended_by := ⟨_, fd_ended_by, ["picture", "number"], O_ended_by, He.glo_ok X G (c.fact 52 rfl), F_ended_by.kp, b_ended_by⟩
  have Q_ended_by_number_picture : FnK P w K mg base (He.ga K) "ended_by" 6 g_ended_by ["number", "picture"] [1, 0] := ⟨_, fd_ended_by, ["picture", "number"], O_ended_by, He.glo_ok X G (c.fact 52 rfl), F_ended_by.kp, kbindsN F_ended_by 0 ["number", "picture"] [1, 0] fun _ _ _ _ _ _ us ws hl hw => match us, ws, hl, hw with | [], [_, _], _, _ => rfl⟩
  obtain ⟨fd_bars, F_bars⟩ := c.def_ 39 (d := d_bars) rfl
  have O_bars : FnOk P w K mg base (L2.CX P w) 6 _ fd_bars ["picture", "kind"] (spG ⟨K, He.ga K, none⟩ g_bars) := ok_bars F_bars C_need_kind M_Pairing A_Pairing_ends A_Picture_times A_Picture_row B_len B_sorted B_tuple
  have b_bars : Binds K fd_bars ["picture", "kind"] [] := FunD.bindsN (ps := ["picture", "kind"]) F_bars fun _ _ _ _ _ _ us hl => match us, hl with | [_, _], _ => rfl
  have C_bars : FnC P w K mg base (He.ga K) "bars" 6 g_bars := ⟨_, fd_bars, ["picture", "kind"], O_bars, He.glo_ok X G (c.fact 53 rfl), F_bars.kp, b_bars⟩
  have Q_bars_kind_picture : FnK P w K mg base (He.ga K) "bars" 6 g_bars ["kind", "picture"] [1, 0] := ⟨_, fd_bars, ["picture", "kind"], O_bars, He.glo_ok X G (c.fact 53 rfl), F_bars.kp, kbindsN F_bars 0 ["kind", "picture"] [1, 0] fun _ _ _ _ _ _ us ws hl hw => match us, ws, hl, hw with | [], [_, _], _, _ => rfl⟩
  obtain ⟨fd_lasting, F_lasting⟩ := c.def_ 40 (d := d_lasting) rfl
  have O_lasting : FnOk P w K mg base (L2.CX P w) 6 _ fd_lasting ["picture", "kind"] (spG ⟨K, He.ga K, none⟩ g_lasting) := ok_lasting F_lasting C_need_kind M_Pairing T_Pairing_enders B_enumerate A_Picture_row A_Pairing_ends B_len A_Picture_times B_tuple
  have b_lasting : Binds K fd_lasting ["picture", "kind"] [] := FunD.bindsN (ps := ["picture", "kind"]) F_lasting fun _ _ _ _ _ _ us hl => match us, hl with | [_, _], _ => rfl
  have C_lasting : FnC P w K mg base (He.ga K) "lasting" 6 g_lasting := ⟨_, fd_lasting, ["picture", "kind"], O_lasting, He.glo_ok X G (c.fact 54 rfl), F_lasting.kp, b_lasting⟩
  have Q_lasting_kind_picture : FnK P w K mg base (He.ga K) "lasting" 6 g_lasting ["kind", "picture"] [1, 0] := ⟨_, fd_lasting, ["picture", "kind"], O_lasting, He.glo_ok X G (c.fact 54 rfl), F_lasting.kp, kbindsN F_lasting 0 ["kind", "picture"] [1, 0] fun _ _ _ _ _ _ us ws hl hw => match us, ws, hl, hw with | [], [_, _], _, _ => rfl⟩
  obtain ⟨fd_showings, F_showings⟩ := c.def_ 41 (d := d_showings) rfl
  have O_showings : FnOk P w K mg base (L2.CX P w) 6 _ fd_showings ["picture"] (spG ⟨K, He.ga K, none⟩ g_showings) := ok_showings F_showings M_Pairing A_Pairing_chains C_chain_of B_tuple
  have b_showings : Binds K fd_showings ["picture"] [] := FunD.bindsN (ps := ["picture"]) F_showings fun _ _ _ _ _ _ us hl => match us, hl with | [_], _ => rfl
  have C_showings : FnC P w K mg base (He.ga K) "showings" 6 g_showings := ⟨_, fd_showings, ["picture"], O_showings, He.glo_ok X G (c.fact 55 rfl), F_showings.kp, b_showings⟩
  have Q_showings_picture : FnK P w K mg base (He.ga K) "showings" 6 g_showings ["picture"] [0] := ⟨_, fd_showings, ["picture"], O_showings, He.glo_ok X G (c.fact 55 rfl), F_showings.kp, kbindsN F_showings 0 ["picture"] [0] fun _ _ _ _ _ _ us ws hl hw => match us, ws, hl, hw with | [], [_], _, _ => rfl⟩
  obtain ⟨fd_is_last, F_is_last⟩ := c.def_ 42 (d := d_is_last) rfl
  have O_is_last : FnOk P w K mg base (L2.CX P w) 5 _ fd_is_last ["picture", "chain", "number"] (spG ⟨K, He.ga K, none⟩ g_is_last) := ok_is_last F_is_last B_len A_Picture_row C_is_chain C_number_in B_max
  have b_is_last : Binds K fd_is_last ["picture", "chain", "number"] [] := FunD.bindsN (ps := ["picture", "chain", "number"]) F_is_last fun _ _ _ _ _ _ us hl => match us, hl with | [_, _, _], _ => rfl
  have C_is_last : FnC P w K mg base (He.ga K) "is_last" 5 g_is_last := ⟨_, fd_is_last, ["picture", "chain", "number"], O_is_last, He.glo_ok X G (c.fact 56 rfl), F_is_last.kp, b_is_last⟩
  obtain ⟨fd_check, F_check⟩ := c.def_ 43 (d := d_check) rfl
  have O_check : FnOk P w K mg base (L2.CX P w) 6 _ fd_check ["picture", "thing"] (spG ⟨K, He.ga K, none⟩ g_check) := ok_check F_check B_len A_Picture_row B_isinstance B_tuple B_enumerate C_is_last C_edge_of C_figures_of C_last_of
  have b_check : Binds K fd_check ["picture", "thing"] [] := FunD.bindsN (ps := ["picture", "thing"]) F_check fun _ _ _ _ _ _ us hl => match us, hl with | [_, _], _ => rfl
  have C_check : FnC P w K mg base (He.ga K) "check" 6 g_check := ⟨_, fd_check, ["picture", "thing"], O_check, He.glo_ok X G (c.fact 57 rfl), F_check.kp, b_check⟩
  have Q_check_thing_picture : FnK P w K mg base (He.ga K) "check" 6 g_check ["thing", "picture"] [1, 0] := ⟨_, fd_check, ["picture", "thing"], O_check, He.glo_ok X G (c.fact 57 rfl), F_check.kp, kbindsN F_check 0 ["thing", "picture"] [1, 0] fun _ _ _ _ _ _ us ws hl hw => match us, ws, hl, hw with | [], [_, _], _, _ => rfl⟩
  obtain ⟨fd_Picture___init__, F_Picture___init__⟩ := c.def_ 44 (d := d_Picture___init__) rfl
  have O_Picture___init__ : FnOk P w K mg base (L2.CX P w) 6 _ fd_Picture___init__ ["self", "things"] (spG ⟨K, He.ga K, none⟩ g_Picture___init__) := ok_Picture___init__ F_Picture___init__ B_len K_MOST_THINGS B_isinstance B_list B_tuple C_need_items K_MOST_POINTS C_lacking C_in_row B_sorted A_Picture_row A_Picture_times
  have b_Picture___init__ : Binds K fd_Picture___init__ ["self", "things"] [] := FunD.bindsN (ps := ["self", "things"]) F_Picture___init__ fun _ _ _ _ _ _ us hl => match us, hl with | [_, _], _ => rfl
  have M_Picture : MkC P w K mg base (He.ga K) "Picture" 6 g_Picture___init__ := ⟨_, fd_Picture___init__, ["self", "things"], He.glo_ok X G (c.fact 0 rfl), He.mkr_ok (c.fact 2 rfl), O_Picture___init__, b_Picture___init__⟩
  have N_Picture_things : MkK P w K mg base (He.ga K) "Picture" 6 g_Picture___init__ ["things"] [0] := ⟨_, fd_Picture___init__, ["self", "things"], He.glo_ok X G (c.fact 0 rfl), He.mkr_ok (c.fact 2 rfl), O_Picture___init__, kbindsN F_Picture___init__ 1 ["things"] [0] fun _ _ _ _ _ _ us ws hl hw => match us, ws, hl, hw with | [_], [_], _, _ => rfl⟩
  obtain ⟨fd_Picture___eq__, F_Picture___eq__⟩ := c.def_ 45 (d := d_Picture___eq__) rfl
  have O_Picture___eq__ : FnOk P w K mg base (L2.CX P w) 8 _ fd_Picture___eq__ ["self", "other"] (spG ⟨K, He.ga K, none⟩ g_Picture___eq__) := ok_Picture___eq__ F_Picture___eq__ A_Picture_times A_Picture_row I_Picture B_isinstance
  have b_Picture___eq__ : Binds K fd_Picture___eq__ ["self", "other"] [] := FunD.bindsN (ps := ["self", "other"]) F_Picture___eq__ fun _ _ _ _ _ _ us hl => match us, hl with | [_, _], _ => rfl
  have T_Picture___eq__ : MetC P w K mg base (He.ga K) "Picture" "__eq__" 8 g_Picture___eq__ := ⟨_, fd_Picture___eq__, ["self", "other"], He.cls_ok (c.fact 1 rfl), He.meth_ok (c.fact 4 rfl), O_Picture___eq__, b_Picture___eq__⟩
  have E_Picture : EqC P w K mg base (He.ga K) "Picture" 8 g_Picture___eq__ := ⟨⟨_, fd_Picture___eq__, ["self", "other"], O_Picture___eq__, b_Picture___eq__, (He.meth_ok (c.fact 4 rfl)).at_, (He.meth_ok (c.fact 4 rfl)).fn⟩, xE_Picture.1, xE_Picture.2⟩
  obtain ⟨fd__law_begun, F__law_begun⟩ := c.def_ 46 (d := d__law_begun) rfl
  have O__law_begun : FnOk P w K mg base (L2.CX P w) 10 _ fd__law_begun ["_law_script"] (spG ⟨K, He.ga K, none⟩ g__law_begun) := ok__law_begun F__law_begun B_list
  have b__law_begun : Binds K fd__law_begun ["_law_script"] [] := FunD.bindsN (ps := ["_law_script"]) F__law_begun fun _ _ _ _ _ _ us hl => match us, hl with | [_], _ => rfl
  have C__law_begun : FnC P w K mg base (He.ga K) "_law_begun" 10 g__law_begun := ⟨_, fd__law_begun, ["_law_script"], O__law_begun, He.glo_ok X G (c.fact 58 rfl), F__law_begun.kp, b__law_begun⟩
  obtain ⟨fd__law_next, F__law_next⟩ := c.def_ 47 (d := d__law_next) rfl
  have O__law_next : FnOk P w K mg base (L2.CX P w) 10 _ fd__law_next ["_law_m", "_law_many"] (spG ⟨K, He.ga K, none⟩ g__law_next) := ok__law_next F__law_next B_int B_len
  have b__law_next : Binds K fd__law_next ["_law_m", "_law_many"] [] := FunD.bindsN (ps := ["_law_m", "_law_many"]) F__law_next fun _ _ _ _ _ _ us hl => match us, hl with | [_, _], _ => rfl
  have C__law_next : FnC P w K mg base (He.ga K) "_law_next" 10 g__law_next := ⟨_, fd__law_next, ["_law_m", "_law_many"], O__law_next, He.glo_ok X G (c.fact 59 rfl), F__law_next.kp, b__law_next⟩
  obtain ⟨fd__law_names, F__law_names⟩ := c.def_ 48 (d := d__law_names) rfl
  have O__law_names : FnOk P w K mg base (L2.CX P w) 11 _ fd__law_names ["_law_m", "_law_many"] (spG ⟨K, He.ga K, none⟩ g__law_names) := ok__law_names F__law_names B_range C__law_next B_len B_int
  have b__law_names : Binds K fd__law_names ["_law_m", "_law_many"] [] := FunD.bindsN (ps := ["_law_m", "_law_many"]) F__law_names fun _ _ _ _ _ _ us hl => match us, hl with | [_, _], _ => rfl
  have C__law_names : FnC P w K mg base (He.ga K) "_law_names" 11 g__law_names := ⟨_, fd__law_names, ["_law_m", "_law_many"], O__law_names, He.glo_ok X G (c.fact 60 rfl), F__law_names.kp, b__law_names⟩
  obtain ⟨fd_Picture_pairs, F_Picture_pairs⟩ := c.def_ 49 (d := d_Picture_pairs) rfl
  have O_Picture_pairs : FnOk P w K mg base (L2.CX P w) 1 _ fd_Picture_pairs ["self"] (spG ⟨K, He.ga K, none⟩ g_Picture_pairs) := ok_Picture_pairs F_Picture_pairs A_Picture_times A_Picture_row B_list B_zip
  have b_Picture_pairs : Binds K fd_Picture_pairs ["self"] [] := FunD.bindsN (ps := ["self"]) F_Picture_pairs fun _ _ _ _ _ _ us hl => match us, hl with | [_], _ => rfl
  have T_Picture_pairs : MetC P w K mg base (He.ga K) "Picture" "pairs" 1 g_Picture_pairs := ⟨_, fd_Picture_pairs, ["self"], He.cls_ok (c.fact 1 rfl), He.meth_ok (c.fact 5 rfl), O_Picture_pairs, b_Picture_pairs⟩
  obtain ⟨fd_Picture_with_thing, F_Picture_with_thing⟩ := c.def_ 50 (d := d_Picture_with_thing) rfl
  have O_Picture_with_thing : FnOk P w K mg base (L2.CX P w) 8 _ fd_Picture_with_thing ["self", "thing", "time"] (spG ⟨K, He.ga K, none⟩ g_Picture_with_thing) := ok_Picture_with_thing F_Picture_with_thing A_Picture_row B_len K_MOST_THINGS M_Picture T_Picture_pairs
  have b_Picture_with_thing : Binds K fd_Picture_with_thing ["self", "thing", "time"] [] := FunD.bindsN (ps := ["self", "thing", "time"]) F_Picture_with_thing fun _ _ _ _ _ _ us hl => match us, hl with | [_, _, _], _ => rfl
  have T_Picture_with_thing : MetC P w K mg base (He.ga K) "Picture" "with_thing" 8 g_Picture_with_thing := ⟨_, fd_Picture_with_thing, ["self", "thing", "time"], He.cls_ok (c.fact 1 rfl), He.meth_ok (c.fact 8 rfl), O_Picture_with_thing, b_Picture_with_thing⟩
  have W_Picture_with_thing_time_thing : MetK P w K mg base (He.ga K) "Picture" "with_thing" 8 g_Picture_with_thing ["time", "thing"] [1, 0] := ⟨_, fd_Picture_with_thing, ["self", "thing", "time"], He.cls_ok (c.fact 1 rfl), He.meth_ok (c.fact 8 rfl), O_Picture_with_thing, kbindsN F_Picture_with_thing 1 ["time", "thing"] [1, 0] fun _ _ _ _ _ _ us ws hl hw => match us, ws, hl, hw with | [_], [_, _], _, _ => rfl⟩
  obtain ⟨fd_Picture_need_thing, F_Picture_need_thing⟩ := c.def_ 51 (d := d_Picture_need_thing) rfl
  have O_Picture_need_thing : FnOk P w K mg base (L2.CX P w) 4 _ fd_Picture_need_thing ["self", "thing"] (spG ⟨K, He.ga K, none⟩ g_Picture_need_thing) := ok_Picture_need_thing F_Picture_need_thing T_Picture_has
  have b_Picture_need_thing : Binds K fd_Picture_need_thing ["self", "thing"] [] := FunD.bindsN (ps := ["self", "thing"]) F_Picture_need_thing fun _ _ _ _ _ _ us hl => match us, hl with | [_, _], _ => rfl
  have T_Picture_need_thing : MetC P w K mg base (He.ga K) "Picture" "need_thing" 4 g_Picture_need_thing := ⟨_, fd_Picture_need_thing, ["self", "thing"], He.cls_ok (c.fact 1 rfl), He.meth_ok (c.fact 7 rfl), O_Picture_need_thing, b_Picture_need_thing⟩
  obtain ⟨fd_Picture_timed, F_Picture_timed⟩ := c.def_ 52 (d := d_Picture_timed) rfl
  have O_Picture_timed : FnOk P w K mg base (L2.CX P w) 8 _ fd_Picture_timed ["self", "thing", "time"] (spG ⟨K, He.ga K, none⟩ g_Picture_timed) := ok_Picture_timed F_Picture_timed T_Picture_need_thing C_need_time T_Picture_pairs C_lacking M_Picture
  have b_Picture_timed : Binds K fd_Picture_timed ["self", "thing", "time"] [] := FunD.bindsN (ps := ["self", "thing", "time"]) F_Picture_timed fun _ _ _ _ _ _ us hl => match us, hl with | [_, _, _], _ => rfl
  have T_Picture_timed : MetC P w K mg base (He.ga K) "Picture" "timed" 8 g_Picture_timed := ⟨_, fd_Picture_timed, ["self", "thing", "time"], He.cls_ok (c.fact 1 rfl), He.meth_ok (c.fact 10 rfl), O_Picture_timed, b_Picture_timed⟩
  have W_Picture_timed_time_thing : MetK P w K mg base (He.ga K) "Picture" "timed" 8 g_Picture_timed ["time", "thing"] [1, 0] := ⟨_, fd_Picture_timed, ["self", "thing", "time"], He.cls_ok (c.fact 1 rfl), He.meth_ok (c.fact 10 rfl), O_Picture_timed, kbindsN F_Picture_timed 1 ["time", "thing"] [1, 0] fun _ _ _ _ _ _ us ws hl hw => match us, ws, hl, hw with | [_], [_, _], _, _ => rfl⟩
  obtain ⟨fd_Picture_without, F_Picture_without⟩ := c.def_ 53 (d := d_Picture_without) rfl
  have O_Picture_without : FnOk P w K mg base (L2.CX P w) 8 _ fd_Picture_without ["self", "thing"] (spG ⟨K, He.ga K, none⟩ g_Picture_without) := ok_Picture_without F_Picture_without T_Picture_need_thing A_Picture_row C_sides_of B_any B_len M_Picture T_Picture_pairs
  have b_Picture_without : Binds K fd_Picture_without ["self", "thing"] [] := FunD.bindsN (ps := ["self", "thing"]) F_Picture_without fun _ _ _ _ _ _ us hl => match us, hl with | [_, _], _ => rfl
  have T_Picture_without : MetC P w K mg base (He.ga K) "Picture" "without" 8 g_Picture_without := ⟨_, fd_Picture_without, ["self", "thing"], He.cls_ok (c.fact 1 rfl), He.meth_ok (c.fact 9 rfl), O_Picture_without, b_Picture_without⟩
  have W_Picture_without_thing : MetK P w K mg base (He.ga K) "Picture" "without" 8 g_Picture_without ["thing"] [0] := ⟨_, fd_Picture_without, ["self", "thing"], He.cls_ok (c.fact 1 rfl), He.meth_ok (c.fact 9 rfl), O_Picture_without, kbindsN F_Picture_without 1 ["thing"] [0] fun _ _ _ _ _ _ us ws hl hw => match us, ws, hl, hw with | [_], [_], _, _ => rfl⟩
  obtain ⟨fd__law_first_right, F__law_first_right⟩ := c.def_ 54 (d := d__law_first_right) rfl
  have O__law_first_right : FnOk P w K mg base (L2.CX P w) 10 _ fd__law_first_right ["_law_a", "_law_b", "_law_view"] (spG ⟨K, He.ga K, none⟩ g__law_first_right) := ok__law_first_right F__law_first_right E_Picture W_Picture_timed_time_thing N_Picture_things W_Picture_with_thing_time_thing W_Picture_without_thing Q_is_chain_thing_picture Q_is_ring_chain_picture Q_edge_chain_picture Q_holes_time_kind_picture Q_is_filled_time_chain_picture Q_filling_time_chain_picture
  have b__law_first_right : Binds K fd__law_first_right ["_law_a", "_law_b", "_law_view"] [] := FunD.bindsN (ps := ["_law_a", "_law_b", "_law_view"]) F__law_first_right fun _ _ _ _ _ _ us hl => match us, hl with | [_, _, _], _ => rfl
  have C__law_first_right : FnC P w K mg base (He.ga K) "_law_first_right" 10 g__law_first_right := ⟨_, fd__law_first_right, ["_law_a", "_law_b", "_law_view"], O__law_first_right, He.glo_ok X G (c.fact 61 rfl), F__law_first_right.kp, b__law_first_right⟩
  obtain ⟨fd__law_second_right, F__law_second_right⟩ := c.def_ 55 (d := d__law_second_right) rfl
  have O__law_second_right : FnOk P w K mg base (L2.CX P w) 10 _ fd__law_second_right ["_law_view"] (spG ⟨K, He.ga K, none⟩ g__law_second_right) := ok__law_second_right F__law_second_right Q_ended_by_number_picture Q_begins_number_picture Q_lasting_kind_picture Q_bars_kind_picture Q_check_thing_picture Q_showings_picture
  have b__law_second_right : Binds K fd__law_second_right ["_law_view"] [] := FunD.bindsN (ps := ["_law_view"]) F__law_second_right fun _ _ _ _ _ _ us hl => match us, hl with | [_], _ => rfl
  have C__law_second_right : FnC P w K mg base (He.ga K) "_law_second_right" 10 g__law_second_right := ⟨_, fd__law_second_right, ["_law_view"], O__law_second_right, He.glo_ok X G (c.fact 62 rfl), F__law_second_right.kp, b__law_second_right⟩
  obtain ⟨fd_law, F_law⟩ := c.def_ 56 (d := d_law) rfl
  have O_law : FnOk P w K mg base (L2.CX P w) 12 _ fd_law ["_law_script"] (spG ⟨K, He.ga K, none⟩ g_law) := ok_law F_law C__law_begun B_range B_len B_min C__law_names B_sorted M_Picture C__law_second_right C__law_first_right
  have b_law : Binds K fd_law ["_law_script"] [] := FunD.bindsN (ps := ["_law_script"]) F_law fun _ _ _ _ _ _ us hl => match us, hl with | [_], _ => rfl
  have C_law : FnC P w K mg base (He.ga K) "law" 12 g_law := ⟨_, fd_law, ["_law_script"], O_law, He.glo_ok X G (c.fact 63 rfl), F_law.kp, b_law⟩
  obtain ⟨fd_Picture___len__, F_Picture___len__⟩ := c.def_ 57 (d := d_Picture___len__) rfl
  have O_Picture___len__ : FnOk P w K mg base (L2.CX P w) 1 _ fd_Picture___len__ ["self"] (spG ⟨K, He.ga K, none⟩ g_Picture___len__) := ok_Picture___len__ F_Picture___len__ A_Picture_row B_len
  have b_Picture___len__ : Binds K fd_Picture___len__ ["self"] [] := FunD.bindsN (ps := ["self"]) F_Picture___len__ fun _ _ _ _ _ _ us hl => match us, hl with | [_], _ => rfl
  have T_Picture___len__ : MetC P w K mg base (He.ga K) "Picture" "__len__" 1 g_Picture___len__ := ⟨_, fd_Picture___len__, ["self"], He.cls_ok (c.fact 1 rfl), He.meth_ok (c.fact 3 rfl), O_Picture___len__, b_Picture___len__⟩
  exact ⟨fd_law, F_law, O_law⟩
end
abbrev lawIx : Nat := 63
end DL
end

section
set_option Elab.async false
set_option linter.all false
set_option maxRecDepth 100000
set_option autoImplicit false
namespace DL
end DL
open PySem PySem.W PySem.Calls PyProof.Rows
set_option maxHeartbeats 0 in
theorem PySem.Challenge.cw_holebirth_k71_calls_by_names_holds : PySem.Challenge.rw_holebirth_k71_calls_by_names.Holds := by
  w_on; o_law
  refine HandSHeadRun.head_any (r := OpenLaw.row PySem.Challenge.rw_holebirth_k71_calls_by_names) (q := view (OpenLaw.row PySem.Challenge.rw_holebirth_k71_calls_by_names).prog [62]) (H := DL.hkE) (ob := DL.obE) (M := 4000) (loose := DL.lnames) (d := HandSHeadRun.topDef (OpenLaw.row PySem.Challenge.rw_holebirth_k71_calls_by_names).prog 62) (kwd := []) DL.obE_eq
    (by kernel_rfl) (fun s => by kernel_rfl) DL.hrun (by kernel_rfl) (by kernel_rfl) (by kernel_rfl) (by rfl) (by first | assumption | decide +kernel) (by decide +kernel) ⟨rfl, rfl, rfl, rfl, rfl, by decide +kernel⟩ ?hw ?hc
  case hw => w_witness2
  case hc =>
    refine DL.walk_W (l := PySem.Challenge.rw_holebirth_k71_calls_by_names) (n := 63) (k := 12) (x := "_law_script") (CX := fun w => L2.CX (PySem.Challenge.rw_holebirth_k71_calls_by_names).prog w) rfl (by decide) (by kernel_rfl) ⟨rfl, by decide, by decide⟩ ?F (fun w H s e s' z => DL.noCX H s e s' z)
    intro w mg fa h Y G hmg0
    obtain ⟨K, KX, c, ce⟩ := Y
    have hmg : mg ("law" : PySem.Str) = some (.ref fa) := by
      have e : (HandSHeadRun.topDef (OpenLaw.row PySem.Challenge.rw_holebirth_k71_calls_by_names).prog 62).name = ("law" : PySem.Str) := by kernel_rfl
      rw [← e]
      exact hmg0
    have ega : fa = He.ga K "law" := by
      have z := hmg.symm.trans (He.glo_ok KX G (c.fact (DL.lawIx) (f := .glo "law") rfl))
      cases z
      rfl
    subst ega
    obtain ⟨fd, F, _⟩ := DL.law_ok (P := (PySem.Challenge.rw_holebirth_k71_calls_by_names).prog) (w := w) (base := h) KX G c ce
    have b := L2.FunD.bindsA (ps := ["_law_script"]) F fun _ _ _ _ _ _ us hl => match us, hl with | [_], _ => rfl
    refine ⟨K, fd, DL.spG ⟨K, He.ga K, none⟩ DL.g_law, KX, fun s v => b s [v] rfl, fun H a ns hl _ hS => DL.law_sp hS (DL.plain_law ns hl), fun base hb hn => ?_⟩
    obtain ⟨fd', F', O⟩ := DL.law_ok (P := (PySem.Challenge.rw_holebirth_k71_calls_by_names).prog) (w := w) (base := base) hb hn c ce
    exact DL.same_fd F F' O
end
