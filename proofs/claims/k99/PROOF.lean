import PyProof.Rows.All
import Wide.All
import OpenK.AllK
import Wide.FinOn
import HandS.ForMost
import HandS.ForExc
import HandS.Nested
import HandS.NestedK
import HandS.DictComp
import HandS.EndTab
import HandS.Wide
import HandS.TupAny
import HandS.More
import HandS.Deep
import HandS.IsInst
import HandS.FStr
import HandS.Zip
import HandS.Defaults
import HandS.ExcInit
import HandS.OwnEq
import HandS.Codes
import HandS.Text
import HandS.ExcIs
import HandS.ExcField
import HandS.ExcOwn
import HandS.ExcValue
import KE.KIsAll
import KE.KTryMore
import HandS.WordsExc
import HandS.Ends
import HandS.Replace
import HandS.Style
import HandS.RaiseMore
import KE.DataMinMax
import KE.SortKeyHeap
import HandS.Conv
import HandS.SortKw
import HandS.TupLen
import KE.KDictSum
import HandS.EndOwn
import KE.GoesMore
import KE.KNestM
import PyProof.LongRange
import PySem.Challenge.RW_handedpast_k99_whole_twelve_loads_far
set_option Elab.async false
set_option linter.all false
set_option maxRecDepth 100000
set_option maxHeartbeats 4000000
/-! DL: a layer of plain data over the hand layer. -/
namespace DL
open PySem L2

/-- plain data: what a value stands for -/
inductive D where
  | non | bl (b : Bool) | int (i : Int) | str (x : Str) | tup (xs : List D) | lst (xs : List D) | ro (xs : List D)
  | dct (kvs : List (Key × D)) | ins (C : Addr) (fs : List (Str × D)) | raw (a : Addr) | ty (n : String) | exc (C : Addr) (fs : List (Str × D))
  | fdct (kvs : List (Key × D))

/-- a thing that is owned and may change -/
inductive MO where
  | lst (xs : List D) | dct (kvs : List (Key × D)) | ins (C : Addr) (fs : List (Str × D))
  | tab (nm : Nat → Nat → Str) | dtq (P : Program) (w : World) (p : Addr) (es : List (List Key × D))
abbrev Mem := List (Addr × MO)
abbrev DS := List (Option D)
abbrev dom (M : Mem) : List Addr := M.map (·.1)

def Ex (H H' : Hp) : Prop := ∀ a o, H a = some o → H' a = some o
theorem Ex.refl (H : Hp) : Ex H H := fun _ _ h => h
theorem Ex.trans {H H1 H2 : Hp} (a : Ex H H1) (b : Ex H1 H2) : Ex H H2 := fun x o h => b x o (a x o h)
theorem Ex.new {H : Hp} {p : Addr} {o : HO} (h : H p = none) : Ex H (upd H p o) := fun a u e => by
  rw [upd_ne (ne_of_none e h)]
  exact e
theorem ex_rd {H H' : Hp} {a : Addr} {u : HO} (e : Ex H H') (h : Rd H a u) : Rd H' a u := by
  rcases h with h | ⟨o, h⟩
  · exact Or.inl (e a _ h)
  · exact Or.inr ⟨o, e a _ h⟩
theorem ex_l {K : PySem.W.Frag} {H H' : Hp} {a : Addr} {xs : List V} (e : Ex H H') (h : SqL K H a xs) : SqL K H' a xs := by
  rcases h with h | h
  · exact Or.inl (ex_rd e h)
  · exact Or.inr h
theorem ex_t {K : PySem.W.Frag} {H H' : Hp} {a : Addr} {xs : List V} (e : Ex H H') (h : SqT K H a xs) : SqT K H' a xs := by
  rcases h with h | h
  · exact Or.inl (ex_rd e h)
  · exact Or.inr h

/-- a caught exception that a variable holds: the class at C, its dict (none | at d) -/
def exV (a C : Addr) (d : Option Addr) : HO := .ext fun h => ∃ oe, h.get? a = some oe ∧ Zc (.ref C) d oe ∧ ∃ vs, oe.data = .fields vs
/-- the fields of an exception -/
def XD (F : Hp) (d : Option Addr) (gs : List (Str × V)) : Prop := match d with
  | none => gs = []
  | some p => F p = some (.xd gs)
theorem XD.mono {F F' : Hp} (e : Ex F F') {d : Option Addr} {gs : List (Str × V)} (h : XD F d gs) : XD F' d gs := by
  cases d with
  | none => exact h
  | some p => exact e _ _ h
mutual
inductive Rep (K : PySem.W.Frag) (F : Hp) : D → V → Prop
  | non : Rep K F .non .non
  | bl (b : Bool) : Rep K F (.bl b) (.bl b)
  | int (i : Int) : Rep K F (.int i) (.int i)
  | str (x : Str) : Rep K F (.str x) (.str x)
  | ty (n : String) : Rep K F (.ty n) (.ty n)
  | raw (a : Addr) : Rep K F (.raw a) (.ref a)
  | tup {a : Addr} {vs : List V} {ds : List D} : SqT K F a vs → Reps K F ds vs → Rep K F (.tup ds) (.ref a)
  | lst {a : Addr} {vs : List V} {ds : List D} : F a = some (.lst vs) → Reps K F ds vs → Rep K F (.lst ds) (.ref a)
  | ro {a : Addr} {vs : List V} {ds : List D} : SqL K F a vs → Reps K F ds vs → Rep K F (.ro ds) (.ref a)
  | dct {a : Addr} {es : List (Key × D)} {kvs : List (Key × V)} : F a = some (.dK kvs) → RepK K F es kvs → Rep K F (.dct es) (.ref a)
  | ins {a C dx : Addr} {fs : List (Str × D)} {gs : List (Str × V)} : F a = some (.ins C dx gs) → RepF K F fs gs → Rep K F (.ins C fs) (.ref a)
  | exc {a C : Addr} {d : Option Addr} {fs : List (Str × D)} {gs : List (Str × V)} : F a = some (exV a C d) → XD F d gs → RepF K F fs gs → Rep K F (.exc C fs) (.ref a)
  | fdct {a : Addr} {es : List (Key × D)} {kvs : List (Key × V)} {o : Obj} : F a = some (.frz o (.dK kvs)) → RepK K F es kvs → Rep K F (.fdct es) (.ref a)
inductive Reps (K : PySem.W.Frag) (F : Hp) : List D → List V → Prop
  | nil : Reps K F [] []
  | cons {d : D} {v : V} {ds : List D} {vs : List V} : Rep K F d v → Reps K F ds vs → Reps K F (d :: ds) (v :: vs)
inductive RepK (K : PySem.W.Frag) (F : Hp) : List (Key × D) → List (Key × V) → Prop
  | nil : RepK K F [] []
  | cons {n : Key} {d : D} {v : V} {fs : List (Key × D)} {gs : List (Key × V)} : Rep K F d v → RepK K F fs gs → RepK K F ((n, d) :: fs) ((n, v) :: gs)
inductive RepF (K : PySem.W.Frag) (F : Hp) : List (Str × D) → List (Str × V) → Prop
  | nil : RepF K F [] []
  | cons {n : Str} {d : D} {v : V} {fs : List (Str × D)} {gs : List (Str × V)} : Rep K F d v → RepF K F fs gs → RepF K F ((n, d) :: fs) ((n, v) :: gs)
end

section
variable {K : PySem.W.Frag} {F F' : Hp}
mutual
theorem Rep.mono (e : Ex F F') : ∀ {d : D} {v : V}, Rep K F d v → Rep K F' d v
  | _, _, .non => .non
  | _, _, .bl b => .bl b
  | _, _, .int i => .int i
  | _, _, .str x => .str x
  | _, _, .ty n => .ty n
  | _, _, .raw a => .raw a
  | _, _, .tup h r => .tup (ex_t e h) (Reps.mono e r)
  | _, _, .lst h r => .lst (e _ _ h) (Reps.mono e r)
  | _, _, .ro h r => .ro (ex_l e h) (Reps.mono e r)
  | _, _, .dct h r => .dct (e _ _ h) (RepK.mono e r)
  | _, _, .ins h r => .ins (e _ _ h) (RepF.mono e r)
  | _, _, .exc h x r => .exc (e _ _ h) (x.mono e) (RepF.mono e r)
  | _, _, .fdct h r => .fdct (e _ _ h) (RepK.mono e r)
theorem Reps.mono (e : Ex F F') : ∀ {ds : List D} {vs : List V}, Reps K F ds vs → Reps K F' ds vs
  | _, _, .nil => .nil
  | _, _, .cons h r => .cons (Rep.mono e h) (Reps.mono e r)
theorem RepK.mono (e : Ex F F') : ∀ {fs : List (Key × D)} {gs : List (Key × V)}, RepK K F fs gs → RepK K F' fs gs
  | _, _, .nil => .nil
  | _, _, .cons h r => .cons (Rep.mono e h) (RepK.mono e r)
theorem RepF.mono (e : Ex F F') : ∀ {fs : List (Str × D)} {gs : List (Str × V)}, RepF K F fs gs → RepF K F' fs gs
  | _, _, .nil => .nil
  | _, _, .cons h r => .cons (Rep.mono e h) (RepF.mono e r)
end

theorem Reps.length : ∀ {ds : List D} {vs : List V}, Reps K F ds vs → ds.length = vs.length
  | _, _, .nil => rfl
  | _, _, .cons _ r => by rw [List.length_cons, List.length_cons, Reps.length r]
theorem Reps.get : ∀ {ds : List D} {vs : List V} {i : Nat} {d : D}, Reps K F ds vs → ds[i]? = some d → ∃ v, vs[i]? = some v ∧ Rep K F d v
  | _, _, _, _, .nil, h => by simp at h
  | _, _, 0, _, .cons h _, e => by
    have e' := Option.some.inj e
    subst e'
    exact ⟨_, rfl, h⟩
  | _, _, i + 1, d, .cons _ r, e => Reps.get (i := i) r e
theorem Reps.getV : ∀ {ds : List D} {vs : List V} {i : Nat} {v : V}, Reps K F ds vs → vs[i]? = some v → ∃ d, ds[i]? = some d ∧ Rep K F d v
  | _, _, _, _, .nil, h => by simp at h
  | _, _, 0, _, .cons h _, e => by
    have e' := Option.some.inj e
    subst e'
    exact ⟨_, rfl, h⟩
  | _, _, i + 1, d, .cons _ r, e => Reps.getV (i := i) r e
theorem Reps.append : ∀ {ds es : List D} {vs us : List V}, Reps K F ds vs → Reps K F es us → Reps K F (ds ++ es) (vs ++ us)
  | _, _, _, _, .nil, s => s
  | _, _, _, _, .cons h r, s => .cons h (Reps.append r s)
theorem Reps.take : ∀ {ds : List D} {vs : List V} (n : Nat), Reps K F ds vs → Reps K F (ds.take n) (vs.take n)
  | _, _, 0, _ => .nil
  | _, _, _ + 1, .nil => .nil
  | _, _, n + 1, .cons h r => .cons h (Reps.take n r)
theorem Reps.drop : ∀ {ds : List D} {vs : List V} (n : Nat), Reps K F ds vs → Reps K F (ds.drop n) (vs.drop n)
  | _, _, 0, r => r
  | _, _, _ + 1, .nil => .nil
  | _, _, n + 1, .cons _ r => Reps.drop n r
theorem Reps.set {d : D} {v : V} (h : Rep K F d v) : ∀ {ds : List D} {vs : List V} (i : Nat), Reps K F ds vs → Reps K F (ds.set i d) (vs.set i v)
  | _, _, _, .nil => .nil
  | _, _, 0, .cons _ r => .cons h r
  | _, _, i + 1, .cons q r => .cons q (Reps.set h i r)
theorem Reps.eraseIdx : ∀ {ds : List D} {vs : List V} (i : Nat), Reps K F ds vs → Reps K F (ds.eraseIdx i) (vs.eraseIdx i)
  | _, _, _, .nil => .nil
  | _, _, 0, .cons _ r => r
  | _, _, i + 1, .cons q r => .cons q (Reps.eraseIdx i r)
theorem Reps.reverse : ∀ {ds : List D} {vs : List V}, Reps K F ds vs → Reps K F ds.reverse vs.reverse
  | _, _, .nil => .nil
  | _, _, .cons h r => by
    rw [List.reverse_cons, List.reverse_cons]
    exact Reps.append (Reps.reverse r) (.cons h .nil)
theorem Reps.ints : ∀ {ns : List Int} {vs : List V}, Reps K F (ns.map D.int) vs → vs = ns.map V.int
  | [], _, .nil => rfl
  | _ :: _, _, .cons h r => by
    cases h
    rw [Reps.ints r]
    all_goals rfl
theorem Reps.ofInts : ∀ (ns : List Int), Reps K F (ns.map D.int) (ns.map V.int)
  | [] => .nil
  | _ :: r => .cons (.int _) (Reps.ofInts r)
theorem Reps.strs : ∀ {ns : List Str} {vs : List V}, Reps K F (ns.map D.str) vs → vs = ns.map V.str
  | [], _, .nil => rfl
  | _ :: _, _, .cons h r => by
    cases h
    rw [Reps.strs r]
    all_goals rfl
theorem Reps.ofStrs : ∀ (ns : List Str), Reps K F (ns.map D.str) (ns.map V.str)
  | [] => .nil
  | _ :: r => .cons (.str _) (Reps.ofStrs r)
theorem Reps.bls : ∀ {ns : List Bool} {vs : List V}, Reps K F (ns.map D.bl) vs → vs = ns.map V.bl
  | [], _, .nil => rfl
  | _ :: _, _, .cons h r => by
    cases h
    rw [Reps.bls r]
    all_goals rfl
theorem RepF.lookup : ∀ {fs : List (Str × D)} {gs : List (Str × V)} {n : Str} {d : D}, RepF K F fs gs → fs.lookup n = some d → ∃ v, gs.lookup n = some v ∧ Rep K F d v
  | _, _, _, _, .nil, h => by simp at h
  | (m, d0) :: fs, _, n, d, .cons h r, e => by
    cases q : n == m with
    | true =>
      simp only [List.lookup, q] at e ⊢
      cases e
      exact ⟨_, rfl, h⟩
    | false =>
      simp only [List.lookup, q] at e ⊢
      exact RepF.lookup r e
theorem RepF.lookupN : ∀ {fs : List (Str × D)} {gs : List (Str × V)} {n : Str}, RepF K F fs gs → fs.lookup n = none → gs.lookup n = none
  | _, _, _, .nil, _ => by simp
  | (m, d0) :: fs, _, n, .cons h r, e => by
    cases q : n == m with
    | true =>
      simp only [List.lookup, q] at e
      cases e
    | false =>
      simp only [List.lookup, q] at e ⊢
      exact RepF.lookupN r e
theorem RepF.length : ∀ {fs : List (Str × D)} {gs : List (Str × V)}, RepF K F fs gs → fs.length = gs.length
  | _, _, .nil => rfl
  | _, _, .cons _ r => by rw [List.length_cons, List.length_cons, RepF.length r]
def putD (f : Str) (d : D) : List (Str × D) → List (Str × D)
  | [] => [(f, d)]
  | (g, e) :: r => if g = f then (g, d) :: r else (g, e) :: putD f d r
end
end DL

namespace DL
open PySem L2
variable {K : PySem.W.Frag}

/-- a dict whose keys are tuples of ints and texts that may stand anywhere -/
def DTq (P : Program) (w : World) (a : Addr) (xs : List (List Key × Addr × Value)) : HO := .ext fun h => xs.length ≤ sizeLine ∧ (a == sysModules) = false ∧ ∃ o es ep, h.get? a = some o ∧ o.ExactDict ∧ o.data = .dict es ep ∧ es.toList = xs.map (entryOfKey (tupleKind (mixKind P w))) ∧ (xs.map (·.1)).Nodup
/-- an entry of it -/
def QEnt (K : PySem.W.Frag) (F : Hp) (e : List Key × D) (x : List Key × Addr × Value) : Prop := e.1 = x.1 ∧ SqT K F x.2.1 (x.1.map kV) ∧ ∃ v, Rep K F e.2 v ∧ RelV v x.2.2
theorem QEnt.mono {K : PySem.W.Frag} {F F' : Hp} (e : Ex F F') {p : List Key × D} {x : List Key × Addr × Value} (h : QEnt K F p x) : QEnt K F' p x := ⟨h.1, ex_t e h.2.1, by obtain ⟨v, h1, h2⟩ := h.2.2; exact ⟨v, h1.mono e, h2⟩⟩
/-- a table of code objects, each with the name of its place -/
def TabR (F : Hp) (nm : Nat → Nat → Str) (o : HO) : Prop := ∃ ps : Array Value, o = .tbl ps ∧ TriplesOk ps.toList ∧ ∀ (pos : Pos) (cv : Value), codeAmong pos ps.toList = some cv → ∃ c, cv = .ref c ∧ F c = some (LamX.CodeO c (nm pos.line pos.col))
def MRep (K : PySem.W.Frag) (F : Hp) (o : HO) (m : MO) : Prop := match m with
  | .lst ds => ∃ vs, o = .lst vs ∧ Reps K F ds vs
  | .dct es => ∃ kvs, o = .dK kvs ∧ RepK K F es kvs
  | .ins C fs => ∃ dx gs, o = .ins C dx gs ∧ RepF K F fs gs
  | .tab nm => TabR F nm o
  | .dtq P w p es => ∃ xs, o = DTq P w p xs ∧ Paired (QEnt K F) es xs
theorem MRep.mono {F F' : Hp} (e : Ex F F') {o : HO} : ∀ {m : MO}, MRep K F o m → MRep K F' o m
  | .lst _, ⟨vs, h, r⟩ => ⟨vs, h, r.mono e⟩
  | .dct _, ⟨vs, h, r⟩ => ⟨vs, h, r.mono e⟩
  | .ins _ _, ⟨dx, vs, h, r⟩ => ⟨dx, vs, h, r.mono e⟩
  | .tab nm, ⟨ps, h1, h2, h3⟩ => ⟨ps, h1, h2, fun pos cv hc => let ⟨c, e1, e2⟩ := h3 pos cv hc; ⟨c, e1, e _ _ e2⟩⟩
  | .dtq _ _ _ _, ⟨xs, h, r⟩ => ⟨xs, h, L2.Paired.mapP r fun _ _ q => q.mono e⟩

/-- F: what stands still; M: what is owned -/
theorem MRep.noxd {F H : Hp} {a : Addr} {o : HO} {m : MO} (h : H a = some o) (r : MRep K F o m) : ∀ gs, H a ≠ some (.xd gs) := fun gs z => by
  rw [h] at z
  cases z
  cases m with
  | lst ds => obtain ⟨_, e, _⟩ := r; cases e
  | dct ds => obtain ⟨_, e, _⟩ := r; cases e
  | ins C fs => obtain ⟨_, _, e, _⟩ := r; cases e
  | tab nm => obtain ⟨_, e, _⟩ := r; cases e
  | dtq _ _ _ _ =>
    obtain ⟨_, e, _⟩ := r
    unfold DTq at e
    cases e
structure Stt (K : PySem.W.Frag) (F H : Hp) (M : Mem) : Prop where
  ex : Ex F H
  mem : ∀ p ∈ M, F p.1 = none ∧ ∃ o, H p.1 = some o ∧ MRep K F o p.2
  nd : (dom M).Nodup

structure Nxt (K : PySem.W.Frag) (F H : Hp) (M : Mem) (F' H' : Hp) (M' : Mem) : Prop where
  st : Stt K F' H' M'
  ex : Ex F F'
  fr : ∀ a o, H a = some o → a ∉ dom M → H' a = some o
  nw : ∀ a, F a = none → H a ≠ none → a ∉ dom M → (∀ gs, H a ≠ some (.xd gs)) → F' a = none
  dm : ∀ a, a ∈ dom M' → a ∈ dom M ∨ H a = none
  tr : ∀ a, H a ≠ none → H' a ≠ none

theorem Nxt.refl {F H : Hp} {M : Mem} (s : Stt K F H M) : Nxt K F H M F H M :=
  ⟨s, Ex.refl F, fun _ _ h _ => h, fun _ h _ _ _ => h, fun _ h => .inl h, fun _ h => h⟩
theorem Nxt.trans {F H F1 H1 F2 H2 : Hp} {M M1 M2 : Mem} (a : Nxt K F H M F1 H1 M1) (b : Nxt K F1 H1 M1 F2 H2 M2) : Nxt K F H M F2 H2 M2 where
  st := b.st
  ex := a.ex.trans b.ex
  fr := fun x o h n => b.fr x o (a.fr x o h n) fun m => (a.dm x m).elim n fun z => by rw [h] at z; cases z
  nw := fun x h1 h2 n hx => b.nw x (a.nw x h1 h2 n hx) (a.tr x h2) (fun m => (a.dm x m).elim n fun z => h2 z) fun gs z => by
    cases e : H x with
    | none => exact h2 e
    | some o =>
      rw [a.fr x o e n] at z
      cases z
      exact hx gs e
  dm := fun x m => (b.dm x m).elim (fun m1 => a.dm x m1) fun z => by
    cases q : H x with
    | none => exact .inr rfl
    | some o => exact absurd z (a.tr x (by rw [q]; intro z; cases z))
  tr := fun x h => b.tr x (a.tr x h)

theorem Stt.out {F H : Hp} {M : Mem} (s : Stt K F H M) {p : Addr} (h : H p = none) : p ∉ dom M := fun m => by
  obtain ⟨q, hq, rfl⟩ := List.mem_map.mp m
  obtain ⟨_, o, e, _⟩ := s.mem q hq
  rw [h] at e
  cases e
theorem Stt.free {F H : Hp} {M : Mem} (s : Stt K F H M) {p : Addr} (h : H p = none) : F p = none := by
  cases q : F p with
  | none => rfl
  | some o =>
    rw [s.ex p o q] at h
    cases h
theorem ne_none_of {H : Hp} {a : Addr} {o : HO} (h : H a = some o) : H a ≠ none := by
  rw [h]
  intro z
  cases z
theorem upd_some {H : Hp} {p a : Addr} {o : HO} (h : H a ≠ none) : upd H p o a ≠ none := by
  by_cases e : a = p
  · subst e
    rw [upd_same]
    intro z
    cases z
  · rw [upd_ne e]
    exact h
theorem Ex.upd2 {F H : Hp} {p : Addr} {o : HO} (e : Ex F H) : Ex (upd F p o) (upd H p o) := fun a u h => by
  by_cases q : a = p
  · subst q
    rw [upd_same] at h ⊢
    exact h
  · rw [upd_ne q] at h ⊢
    exact e a u h
theorem Ex.updM {F H : Hp} {p : Addr} {o : HO} (e : Ex F H) (h : F p = none) : Ex F (upd H p o) := fun a u ha => by
  rw [upd_ne (ne_of_none ha h)]
  exact e a u ha

/-- a new thing that stands still -/
theorem Nxt.newF {F H : Hp} {M : Mem} (s : Stt K F H M) {p : Addr} {o : HO} (h : H p = none) : Nxt K F H M (upd F p o) (upd H p o) M where
  st := ⟨s.ex.upd2, fun q hq => by
    obtain ⟨h1, u, h2, h3⟩ := s.mem q hq
    have ne : q.1 ≠ p := ne_of_none h2 h
    exact ⟨by rw [upd_ne ne]; exact h1, u, by rw [upd_ne ne]; exact h2, h3.mono (Ex.new (s.free h))⟩, s.nd⟩
  ex := Ex.new (s.free h)
  fr := fun a u e _ => by
    rw [upd_ne (ne_of_none e h)]
    exact e
  nw := fun a h1 h2 _ _ => by
    have ne : a ≠ p := fun z => h2 (z ▸ h)
    rw [upd_ne ne]
    exact h1
  dm := fun _ m => .inl m
  tr := fun _ e => upd_some e
/-- a new thing that is owned -/
theorem Nxt.newM {F H : Hp} {M : Mem} (s : Stt K F H M) {p : Addr} {o : HO} {m : MO} (h : H p = none) (r : MRep K F o m) : Nxt K F H M F (upd H p o) ((p, m) :: M) where
  st := ⟨s.ex.updM (s.free h), fun q hq => by
    rcases List.mem_cons.mp hq with e | hq
    · subst e
      exact ⟨s.free h, o, upd_same, r⟩
    · obtain ⟨h1, u, h2, h3⟩ := s.mem q hq
      have ne : q.1 ≠ p := ne_of_none h2 h
      exact ⟨h1, u, by rw [upd_ne ne]; exact h2, h3⟩, List.nodup_cons.mpr ⟨s.out h, s.nd⟩⟩
  ex := Ex.refl F
  fr := fun a u e _ => by
    rw [upd_ne (ne_of_none e h)]
    exact e
  nw := fun a h1 _ _ _ => h1
  dm := fun a m => (List.mem_cons.mp m).elim (fun e => .inr (by rw [e]; exact h)) .inl
  tr := fun _ e => upd_some e

/-- where p stands in M -/
inductive At : Mem → Addr → MO → Prop
  | hd {p m M} : At ((p, m) :: M) p m
  | tl {p m q M} : At M p m → At (q :: M) p m
/-- M with p's content changed -/
inductive Up : Mem → Addr → MO → MO → Mem → Prop
  | hd {p m m' M} : Up ((p, m) :: M) p m m' ((p, m') :: M)
  | tl {p m m' q M M'} : Up M p m m' M' → Up (q :: M) p m m' (q :: M')
/-- M without p -/
inductive Del : Mem → Addr → MO → Mem → Prop
  | hd {p m M} : Del ((p, m) :: M) p m M
  | tl {p m q M M'} : Del M p m M' → Del (q :: M) p m (q :: M')
theorem At.mem {M : Mem} {p : Addr} {m : MO} (h : At M p m) : (p, m) ∈ M := by
  induction h with
  | hd => exact List.mem_cons_self
  | tl _ ih => exact List.mem_cons_of_mem _ ih
theorem Up.at {M M' : Mem} {p : Addr} {m m' : MO} (h : Up M p m m' M') : At M p m := by
  induction h with
  | hd => exact .hd
  | tl _ ih => exact .tl ih
theorem Up.dom {M M' : Mem} {p : Addr} {m m' : MO} (h : Up M p m m' M') : dom M' = dom M := by
  induction h with
  | hd => rfl
  | @tl p m m' q M M' _ ih =>
    show q.1 :: DL.dom M' = q.1 :: DL.dom M
    rw [ih]
theorem Up.new {M M' : Mem} {p : Addr} {m m' : MO} (h : Up M p m m' M') : ∀ q ∈ M', q = (p, m') ∨ q ∈ M := by
  induction h with
  | hd =>
    intro q hq
    rcases List.mem_cons.mp hq with e | hq
    · exact .inl e
    · exact .inr (List.mem_cons_of_mem _ hq)
  | tl _ ih =>
    intro q hq
    rcases List.mem_cons.mp hq with e | hq
    · subst e
      exact .inr List.mem_cons_self
    · exact (ih q hq).imp id fun z => List.mem_cons_of_mem _ z
theorem Up.old {M M' : Mem} {p : Addr} {m m' : MO} (h : Up M p m m' M') (nd : (DL.dom M).Nodup) : ∀ q ∈ M', q = (p, m') ∨ (q ∈ M ∧ q.1 ≠ p) := by
  induction h with
  | hd =>
    intro q hq
    rcases List.mem_cons.mp hq with e | hq
    · exact .inl e
    · exact .inr ⟨List.mem_cons_of_mem _ hq, fun z => (List.nodup_cons.mp nd).1 (List.mem_map.mpr ⟨q, hq, z⟩)⟩
  | @tl p m m' q0 M M' hu ih =>
    intro q hq
    rcases List.mem_cons.mp hq with e | hq
    · subst e
      exact .inr ⟨List.mem_cons_self, fun z => (List.nodup_cons.mp nd).1 (List.mem_map.mpr ⟨_, hu.at.mem, z.symm⟩)⟩
    · exact (ih (List.nodup_cons.mp nd).2 q hq).imp id fun z => ⟨List.mem_cons_of_mem _ z.1, z.2⟩
theorem Del.at {M M' : Mem} {p : Addr} {m : MO} (h : Del M p m M') : At M p m := by
  induction h with
  | hd => exact .hd
  | tl _ ih => exact .tl ih
theorem Del.sub {M M' : Mem} {p : Addr} {m : MO} (h : Del M p m M') : List.Sublist M' M := by
  induction h with
  | hd => exact List.sublist_cons_self _ _
  | tl _ ih => exact ih.cons_cons _
theorem Del.out {M M' : Mem} {p : Addr} {m : MO} (h : Del M p m M') (nd : (DL.dom M).Nodup) : p ∉ DL.dom M' := by
  induction h with
  | hd => exact (List.nodup_cons.mp nd).1
  | @tl p m q M M' hd ih =>
    intro z
    rcases List.mem_cons.mp z with e | z
    · exact (List.nodup_cons.mp nd).1 (List.mem_map.mpr ⟨_, hd.at.mem, e⟩)
    · exact ih (List.nodup_cons.mp nd).2 z

theorem Stt.at {F H : Hp} {M : Mem} (s : Stt K F H M) {p : Addr} {m : MO} (h : At M p m) : F p = none ∧ ∃ o, H p = some o ∧ MRep K F o m := s.mem _ h.mem
/-- what is owned is written -/
theorem Nxt.put {F H : Hp} {M M' : Mem} (s : Stt K F H M) {p : Addr} {o : HO} {m m' : MO} (h : Up M p m m' M') (r : MRep K F o m') : Nxt K F H M F (upd H p o) M' where
  st := ⟨s.ex.updM (s.at h.at).1, fun q hq => by
    rcases h.old s.nd q hq with e | ⟨hq, ne⟩
    · subst e
      exact ⟨(s.at h.at).1, o, upd_same, r⟩
    · obtain ⟨h1, u, h2, h3⟩ := s.mem q hq
      exact ⟨h1, u, by rw [upd_ne ne]; exact h2, h3⟩, by rw [h.dom]; exact s.nd⟩
  ex := Ex.refl F
  fr := fun a u e n => by
    rw [upd_ne fun z => n (by rw [z]; exact List.mem_map.mpr ⟨_, h.at.mem, rfl⟩)]
    exact e
  nw := fun a h1 _ _ _ => h1
  dm := fun a m => .inl (by rw [← h.dom]; exact m)
  tr := fun _ e => upd_some e
/-- what is owned stands still from now on -/
theorem Nxt.frz {F H : Hp} {M M' : Mem} (s : Stt K F H M) {p : Addr} {o : HO} {m : MO} (h : Del M p m M') (ho : H p = some o) : Nxt K F H M (upd F p o) H M' where
  st := ⟨fun a u e => by
    by_cases q : a = p
    · subst q
      rw [upd_same] at e
      rw [ho]
      exact e
    · rw [upd_ne q] at e
      exact s.ex a u e, fun q hq => by
    obtain ⟨h1, u, h2, h3⟩ := s.mem q (h.sub.subset hq)
    have ne : q.1 ≠ p := fun z => h.out s.nd (by rw [← z]; exact List.mem_map.mpr ⟨q, hq, rfl⟩)
    exact ⟨by rw [upd_ne ne]; exact h1, u, h2, h3.mono (Ex.new (s.at h.at).1)⟩, s.nd.sublist (h.sub.map _)⟩
  ex := Ex.new (s.at h.at).1
  fr := fun _ _ e _ => e
  nw := fun a h1 _ n _ => by
    rw [upd_ne fun z => n (by rw [z]; exact List.mem_map.mpr ⟨_, h.at.mem, rfl⟩)]
    exact h1
  dm := fun a m => .inl ((h.sub.map (·.1)).subset m)
  tr := fun _ e => e
theorem frz_lst {F H : Hp} {M M' : Mem} (s : Stt K F H M) {p : Addr} {ds : List D} (h : Del M p (.lst ds) M') : ∃ F', Nxt K F H M F' H M' ∧ Rep K F' (.lst ds) (.ref p) := by
  obtain ⟨h1, o, h2, vs, rfl, r⟩ := s.at h.at
  have n := Nxt.frz s h h2
  exact ⟨_, n, .lst upd_same (r.mono n.ex)⟩
theorem frz_dct {F H : Hp} {M M' : Mem} (s : Stt K F H M) {p : Addr} {ds : List (Key × D)} (h : Del M p (.dct ds) M') : ∃ F', Nxt K F H M F' H M' ∧ Rep K F' (.dct ds) (.ref p) := by
  obtain ⟨h1, o, h2, vs, rfl, r⟩ := s.at h.at
  have n := Nxt.frz s h h2
  exact ⟨_, n, .dct upd_same (r.mono n.ex)⟩
theorem frz_ins {F H : Hp} {M M' : Mem} (s : Stt K F H M) {p C : Addr} {fs : List (Str × D)} (h : Del M p (.ins C fs) M') : ∃ F', Nxt K F H M F' H M' ∧ Rep K F' (.ins C fs) (.ref p) := by
  obtain ⟨h1, o, h2, dx, gs, rfl, r⟩ := s.at h.at
  have n := Nxt.frz s h h2
  exact ⟨_, n, .ins upd_same (r.mono n.ex)⟩

/-- a part of what is owned is handed on -/
theorem Stt.part {F H : Hp} {Mr Mc : Mem} (s : Stt K F H (Mr ++ Mc)) : Stt K F H Mc :=
  ⟨s.ex, fun p hp => s.mem p (List.mem_append_right _ hp), s.nd.sublist ((List.sublist_append_right Mr Mc).map _)⟩
theorem Nxt.whole {F H F' H' : Hp} {Mr Mc Mc' : Mem} (s : Stt K F H (Mr ++ Mc)) (n : Nxt K F H Mc F' H' Mc') : Nxt K F H (Mr ++ Mc) F' H' (Mr ++ Mc') := by
  have nd : (dom Mr ++ dom Mc).Nodup := by
    have := s.nd
    unfold dom at this
    rw [List.map_append] at this
    exact this
  obtain ⟨nd1, nd2, nd3⟩ := List.nodup_append.mp nd
  have out : ∀ p ∈ Mr, p.1 ∉ dom Mc := fun p hp z => nd3 p.1 (List.mem_map.mpr ⟨p, hp, rfl⟩) p.1 z rfl
  refine ⟨⟨n.st.ex, fun p hp => ?_, ?_⟩, n.ex, fun a o h na => n.fr a o h fun z => na ?_, fun a h1 h2 na hx => n.nw a h1 h2 (fun z => na ?_) hx, fun a m => ?_, n.tr⟩
  · rcases List.mem_append.mp hp with hp | hp
    · obtain ⟨h1, o, h2, h3⟩ := s.mem p (List.mem_append_left _ hp)
      exact ⟨n.nw _ h1 (ne_none_of h2) (out p hp) (MRep.noxd h2 h3), o, n.fr _ _ h2 (out p hp), h3.mono n.ex⟩
    · exact n.st.mem p hp
  · unfold dom
    rw [List.map_append]
    refine List.nodup_append.mpr ⟨nd1, n.st.nd, fun a ha b hb e => ?_⟩
    subst e
    rcases n.dm a hb with z | z
    · exact nd3 a ha a z rfl
    · obtain ⟨p, hp, rfl⟩ := List.mem_map.mp ha
      obtain ⟨_, o, h2, _⟩ := s.mem p (List.mem_append_left _ hp)
      rw [z] at h2
      cases h2
  · unfold dom
    rw [List.map_append]
    exact List.mem_append_right _ z
  · unfold dom
    rw [List.map_append]
    exact List.mem_append_right _ z
  · unfold dom at m
    rw [List.map_append] at m
    rcases List.mem_append.mp m with m | m
    · refine .inl ?_
      unfold dom
      rw [List.map_append]
      exact List.mem_append_left _ m
    · refine (n.dm a m).imp (fun z => ?_) id
      unfold dom
      rw [List.map_append]
      exact List.mem_append_right _ z

/-! ### slots -/
def EnvR (K : PySem.W.Frag) (F : Hp) (ds : DS) (σ : St) : Prop := ds.length = σ.length ∧ ∀ (i : Nat) (d : D), ds[i]? = some (some d) → ∃ v, σ[i]? = some (some v) ∧ Rep K F d v
theorem EnvR.mono {F F' : Hp} {ds : DS} {σ : St} (e : Ex F F') (h : EnvR K F ds σ) : EnvR K F' ds σ := ⟨h.1, fun i d q => by
  obtain ⟨v, h1, h2⟩ := h.2 i d q
  exact ⟨v, h1, h2.mono e⟩⟩
theorem EnvR.set {F : Hp} {ds : DS} {σ : St} {d : D} {v : V} (i : Nat) (h : EnvR K F ds σ) (r : Rep K F d v) : EnvR K F (ds.set i (some d)) (σ.set i (some v)) := by
  refine ⟨by rw [List.length_set, List.length_set]; exact h.1, fun j e q => ?_⟩
  by_cases z : i = j
  · subst z
    have hl : i < ds.length := by
      have := (List.getElem?_eq_some_iff.mp q).1
      rw [List.length_set] at this
      exact this
    rw [List.getElem?_set_self hl] at q
    cases q
    exact ⟨v, List.getElem?_set_self (by rw [← h.1]; exact hl), r⟩
  · rw [List.getElem?_set_ne z] at q ⊢
    exact h.2 j e q
theorem EnvR.setN {F : Hp} {ds : DS} {σ : St} {v : Option V} (i : Nat) (h : EnvR K F ds σ) : EnvR K F (ds.set i none) (σ.set i v) := by
  refine ⟨by rw [List.length_set, List.length_set]; exact h.1, fun j e q => ?_⟩
  by_cases z : i = j
  · subst z
    have hl : i < ds.length := by
      have := (List.getElem?_eq_some_iff.mp q).1
      rw [List.length_set] at this
      exact this
    rw [List.getElem?_set_self hl] at q
    cases q
  · rw [List.getElem?_set_ne z] at q ⊢
    exact h.2 j e q
def dwipe (ds : DS) : List Nat → DS
  | [] => ds
  | v :: vs => (dwipe ds vs).set v none
theorem EnvR.wipe {F : Hp} {ds : DS} {σ : St} (h : EnvR K F ds σ) : ∀ vs : List Nat, EnvR K F (dwipe ds vs) (L2.wipe σ vs)
  | [] => h
  | v :: vs => (EnvR.wipe h vs).setN v
def dstart (N : List Str) (ds : List D) : DS := ds.map some ++ List.replicate (N.length - ds.length) none
theorem EnvR.begun {F : Hp} {N : List Str} {ds : List D} {vs : List V} (r : Reps K F ds vs) : EnvR K F (dstart N ds) (start N vs) := by
  have hl := r.length
  refine ⟨?_, fun i d q => ?_⟩
  · unfold dstart L2.start
    rw [List.length_append, List.length_append, List.length_map, List.length_map, List.length_replicate, List.length_replicate, hl]
  · unfold dstart at q
    unfold L2.start
    by_cases hi : i < ds.length
    · rw [List.getElem?_append_left (by rw [List.length_map]; exact hi), List.getElem?_map] at q
      rw [List.getElem?_append_left (by rw [List.length_map, ← hl]; exact hi), List.getElem?_map]
      cases e : ds[i]? with
      | none =>
        rw [e] at q
        cases q
      | some d0 =>
        rw [e] at q
        cases q
        obtain ⟨v, h1, h2⟩ := r.get e
        exact ⟨v, by rw [h1]; rfl, h2⟩
    · rw [List.getElem?_append_right (by rw [List.length_map]; omega), List.getElem?_replicate] at q
      split at q <;> cases q
end DL

namespace DL
open PySem L2 PyProof.Rows

structure Cfg where
  K : PySem.W.Frag
  E : L2.St → XK
  x : DS → Value → List (Str × D) → Mem → Prop

/-- the fields of an exception -/
def ExD (K : PySem.W.Frag) (F H : Hp) (d : Option Addr) (fs : List (Str × D)) : Prop := match d with
  | none => fs = []
  | some p => ∃ gs, H p = some (.xd gs) ∧ RepF K F fs gs

def Cov (C : Cfg) (F H : Hp) (M : Mem) : Prop := ∀ ds σ cls fs M' F' H' d, Nxt C.K F H M F' H' M' → EnvR C.K F' ds σ → C.x ds cls fs M' → ExD C.K F' H' d fs → C.E σ cls d H'
theorem Cov.next {C : Cfg} {F H F' H' : Hp} {M M' : Mem} (c : Cov C F H M) (n : Nxt C.K F H M F' H' M') : Cov C F' H' M' :=
  fun ds σ cls fs M2 F2 H2 d n2 => c ds σ cls fs M2 F2 H2 d (n.trans n2)

def Go (K : PySem.W.Frag) (F H : Hp) (M : Mem) (k : D → Mem → Prop) (Q : VK) : Prop := ∀ d M' v F' H', Nxt K F H M F' H' M' → Rep K F' d v → k d M' → Q v H'
def GoT (K : PySem.W.Frag) (F H : Hp) (M : Mem) (k : Bool → Mem → Prop) (Q : Bool → Hp → Prop) : Prop := ∀ d M' F' H', Nxt K F H M F' H' M' → k d M' → Q d H'
def GoA (K : PySem.W.Frag) (F H : Hp) (M : Mem) (k : List D → Mem → Prop) (Q : List V → Hp → Prop) : Prop := ∀ d M' v F' H', Nxt K F H M F' H' M' → Reps K F' d v → k d M' → Q v H'
def GoS (K : PySem.W.Frag) (F H : Hp) (M : Mem) (k : DS → Mem → Prop) (Q : L2.St → Hp → Prop) : Prop := ∀ d M' v F' H', Nxt K F H M F' H' M' → EnvR K F' d v → k d M' → Q v H'
section
variable {K : PySem.W.Frag} {F H F' H' : Hp} {M M' : Mem}
theorem Go.next {k : D → Mem → Prop} {Q : VK} (g : Go K F H M k Q) (n : Nxt K F H M F' H' M') : Go K F' H' M' k Q := fun d M2 v F2 H2 n2 => g d M2 v F2 H2 (n.trans n2)
theorem GoT.next {k : Bool → Mem → Prop} {Q} (g : GoT K F H M k Q) (n : Nxt K F H M F' H' M') : GoT K F' H' M' k Q := fun d M2 F2 H2 n2 => g d M2 F2 H2 (n.trans n2)
theorem GoA.next {k : List D → Mem → Prop} {Q} (g : GoA K F H M k Q) (n : Nxt K F H M F' H' M') : GoA K F' H' M' k Q := fun d M2 v F2 H2 n2 => g d M2 v F2 H2 (n.trans n2)
theorem GoS.next {k : DS → Mem → Prop} {Q} (g : GoS K F H M k Q) (n : Nxt K F H M F' H' M') : GoS K F' H' M' k Q := fun d M2 v F2 H2 n2 => g d M2 v F2 H2 (n.trans n2)
theorem Go.now {k : D → Mem → Prop} {Q : VK} {d : D} {v : V} (g : Go K F H M k Q) (s : Stt K F H M) (r : Rep K F d v) (h : k d M) : Q v H := g d M v F H (Nxt.refl s) r h
end

def XE (C : Cfg) (te : TE) (ds : DS) (M : Mem) (k : D → Mem → Prop) : Prop :=
  ∀ F H σ, Stt C.K F H M → EnvR C.K F ds σ → Cov C F H M → ∀ Q : VK, Go C.K F H M k Q → te σ H Q
def XT (C : Cfg) (tt : TT) (ds : DS) (M : Mem) (k : Bool → Mem → Prop) : Prop :=
  ∀ F H σ, Stt C.K F H M → EnvR C.K F ds σ → Cov C F H M → ∀ Q : Bool → Hp → Prop, GoT C.K F H M k Q → tt σ H Q
def XA (C : Cfg) (ta : TA) (ds : DS) (M : Mem) (k : List D → Mem → Prop) : Prop :=
  ∀ F H σ, Stt C.K F H M → EnvR C.K F ds σ → Cov C F H M → ∀ Q : List V → Hp → Prop, GoA C.K F H M k Q → ta σ H Q
def XR (K : PySem.W.Frag) (r : R2) (x y : D) (M : Mem) (k : D → Mem → Prop) : Prop :=
  ∀ F H vx vy, Stt K F H M → Rep K F x vx → Rep K F y vy → ∀ Q : VK, Go K F H M k Q → r vx vy H Q
def XU (K : PySem.W.Frag) (r : V → Hp → VK → Prop) (x : D) (M : Mem) (k : D → Mem → Prop) : Prop :=
  ∀ F H vx, Stt K F H M → Rep K F x vx → ∀ Q : VK, Go K F H M k Q → r vx H Q
/-- a call on values -/
def XC (K : PySem.W.Frag) (r : List V → Hp → VK → Prop) (xs : List D) (M : Mem) (k : D → Mem → Prop) : Prop :=
  ∀ F H vs, Stt K F H M → Reps K F xs vs → ∀ Q : VK, Go K F H M k Q → r vs H Q
/-- a method on values -/
def XM (K : PySem.W.Frag) (r : V → List V → Hp → VK → Prop) (x : D) (xs : List D) (M : Mem) (k : D → Mem → Prop) : Prop :=
  ∀ F H v vs, Stt K F H M → Rep K F x v → Reps K F xs vs → ∀ Q : VK, Go K F H M k Q → r v vs H Q

structure Post where
  nx : DS → Mem → Prop
  rt : D → Mem → Prop
  bk : DS → Mem → Prop := fun _ _ => False
  ct : DS → Mem → Prop := fun _ _ => False
structure Fit (K : PySem.W.Frag) (F H : Hp) (M : Mem) (P : Post) (D : Ends) : Prop where
  nx : GoS K F H M P.nx D.nx
  rt : Go K F H M P.rt D.rt
  bk : GoS K F H M P.bk D.bk
  ct : GoS K F H M P.ct D.ct
theorem Fit.next {K : PySem.W.Frag} {F H F' H' : Hp} {M M' : Mem} {P : Post} {D : Ends} (f : Fit K F H M P D) (n : Nxt K F H M F' H' M') : Fit K F' H' M' P D :=
  ⟨f.nx.next n, f.rt.next n, f.bk.next n, f.ct.next n⟩
def XS (C : Cfg) (ts : TS) (ds : DS) (M : Mem) (P : Post) : Prop :=
  ∀ F H σ, Stt C.K F H M → EnvR C.K F ds σ → Cov C F H M → ∀ D : Ends, Fit C.K F H M P D → ts D σ H

section
variable {C : Cfg} {ds : DS} {M : Mem} {k : D → Mem → Prop} {te ta tb tc : TE} {r r' : R2}
/-! ### expressions -/
theorem XE.var {i : Nat} {d : D} (h : ds[i]? = some (some d)) (q : k d M) : XE C (tVar i) ds M k := fun F H σ s e _ Q g => by
  obtain ⟨v, h1, h2⟩ := e.2 i d h
  exact ⟨v, h1, g.now s h2 q⟩
theorem XE.c {v : V} {d : D} (h : ∀ F, Rep C.K F d v) (q : k d M) : XE C (tC v) ds M k := fun F H σ s e _ Q g => g.now s (h F) q
theorem XE.int {i : Int} (q : k (.int i) M) : XE C (tC (.int i)) ds M k := XE.c (fun _ => .int i) q
theorem XE.bl {i : Bool} (q : k (.bl i) M) : XE C (tC (.bl i)) ds M k := XE.c (fun _ => .bl i) q
theorem XE.non (q : k .non M) : XE C (tC .non) ds M k := XE.c (fun _ => .non) q
theorem XE.str {i : Str} (q : k (.str i) M) : XE C (tC (.str i)) ds M k := XE.c (fun _ => .str i) q
theorem XE.ty {i : String} (q : k (.ty i) M) : XE C (tC (.ty i)) ds M k := XE.c (fun _ => .ty i) q
theorem XE.op (h : XE C ta ds M fun x M1 => XE C tb ds M1 fun y M2 => XR C.K r x y M2 k) : XE C (tOp r ta tb) ds M k := fun F H σ s e c Q g =>
  h F H σ s e c _ fun x M1 v F1 H1 n1 r1 h1 => h1 F1 H1 σ n1.st (e.mono n1.ex) (c.next n1) _ fun y M2 u F2 H2 n2 r2 h2 =>
    h2 F2 H2 v u n2.st (r1.mono n2.ex) r2 Q ((g.next n1).next n2)
theorem XE.un {r : V → Hp → VK → Prop} (h : XE C ta ds M fun x M1 => XU C.K r x M1 k) : XE C (tUn r ta) ds M k := fun F H σ s e c Q g =>
  h F H σ s e c _ fun x M1 v F1 H1 n1 r1 h1 => h1 F1 H1 v n1.st r1 Q (g.next n1)
theorem XE.ite {t : TT} (h : XT C t ds M fun b M1 => (b = true → XE C ta ds M1 k) ∧ (b = false → XE C tb ds M1 k)) : XE C (tIf t ta tb) ds M k := fun F H σ s e c Q g =>
  h F H σ s e c _ fun b M1 F1 H1 n1 h1 => by
    cases b with
    | true => exact h1.1 rfl F1 H1 σ n1.st (e.mono n1.ex) (c.next n1) Q (g.next n1)
    | false => exact h1.2 rfl F1 H1 σ n1.st (e.mono n1.ex) (c.next n1) Q (g.next n1)
theorem XE.andV (h : XE C ta ds M fun x M1 => ∃ b, x = .bl b ∧ (b = true → XE C tb ds M1 k) ∧ (b = false → k (.bl false) M1)) : XE C (tAndV ta tb) ds M k := fun F H σ s e c Q g =>
  h F H σ s e c _ fun x M1 v F1 H1 n1 r1 h1 => by
    obtain ⟨b, rfl, h2, h3⟩ := h1
    cases r1
    refine ⟨b, rfl, ?_⟩
    cases b with
    | true => exact h2 rfl F1 H1 σ n1.st (e.mono n1.ex) (c.next n1) Q (g.next n1)
    | false => exact (g.next n1).now n1.st (.bl false) (h3 rfl)
theorem XE.orV (h : XE C ta ds M fun x M1 => ∃ b, x = .bl b ∧ (b = true → k (.bl true) M1) ∧ (b = false → XE C tb ds M1 k)) : XE C (tOrV ta tb) ds M k := fun F H σ s e c Q g =>
  h F H σ s e c _ fun x M1 v F1 H1 n1 r1 h1 => by
    obtain ⟨b, rfl, h2, h3⟩ := h1
    cases r1
    refine ⟨b, rfl, ?_⟩
    cases b with
    | true => exact (g.next n1).now n1.st (.bl true) (h2 rfl)
    | false => exact h3 rfl F1 H1 σ n1.st (e.mono n1.ex) (c.next n1) Q (g.next n1)
theorem XE.notV (h : XE C ta ds M fun x M1 => ∃ b, x = .bl b ∧ k (.bl (!b)) M1) : XE C (tNotV ta) ds M k := fun F H σ s e c Q g =>
  h F H σ s e c _ fun x M1 v F1 H1 n1 r1 h1 => by
    obtain ⟨b, rfl, h2⟩ := h1
    cases r1
    exact ⟨b, rfl, (g.next n1).now n1.st (.bl _) h2⟩
theorem XE.chain (h : XE C ta ds M fun x M1 => XE C tb ds M1 fun y M2 => XR C.K r x y M2 fun z M3 => ∃ b, z = .bl b ∧ (b = true → XE C tc ds M3 fun w M4 => XR C.K r' y w M4 k) ∧ (b = false → k (.bl false) M3)) :
    XE C (tChain r r' ta tb tc) ds M k := fun F H σ s e c Q g =>
  h F H σ s e c _ fun x M1 v F1 H1 n1 r1 h1 => h1 F1 H1 σ n1.st (e.mono n1.ex) (c.next n1) _ fun y M2 u F2 H2 n2 r2 h2 =>
    h2 F2 H2 v u n2.st (r1.mono n2.ex) r2 _ fun z M3 w F3 H3 n3 r3 h3 => by
      obtain ⟨b, rfl, h4, h5⟩ := h3
      cases r3
      refine ⟨b, rfl, ?_⟩
      have n := (n1.trans n2).trans n3
      cases b with
      | true =>
        show tc σ H3 _
        exact h4 rfl F3 H3 σ n3.st (e.mono n.ex) (c.next n) _ fun w M4 x4 F4 H4 n4 r4 h4 => h4 F4 H4 u x4 n4.st (r2.mono (n3.ex.trans n4.ex)) r4 Q ((g.next n).next n4)
      | false => exact (g.next n).now n3.st (.bl false) (h5 rfl)

/-! ### tests -/
variable {kt : Bool → Mem → Prop} {t u : TT}
theorem XT.tst (h : XE C te ds M fun x M1 => ∃ b, x = .bl b ∧ kt b M1) : XT C (tTest te) ds M kt := fun F H σ s e c Q g =>
  h F H σ s e c _ fun x M1 v F1 H1 n1 r1 h1 => by
    obtain ⟨b, rfl, h2⟩ := h1
    cases r1
    exact ⟨b, rfl, g b M1 F1 H1 n1 h2⟩
theorem XT.bool (h : XE C te ds M fun x M1 => ∃ b, x = .bl b ∧ kt b M1) : XT C (tB te) ds M kt := XT.tst h
theorem XT.and (h : XT C t ds M fun b M1 => (b = true → XT C u ds M1 kt) ∧ (b = false → kt false M1)) : XT C (tAnd t u) ds M kt := fun F H σ s e c Q g =>
  h F H σ s e c _ fun b M1 F1 H1 n1 h1 => by
    cases b with
    | true => exact h1.1 rfl F1 H1 σ n1.st (e.mono n1.ex) (c.next n1) Q (g.next n1)
    | false => exact g false M1 F1 H1 n1 (h1.2 rfl)
theorem XT.or (h : XT C t ds M fun b M1 => (b = true → kt true M1) ∧ (b = false → XT C u ds M1 kt)) : XT C (tOr t u) ds M kt := fun F H σ s e c Q g =>
  h F H σ s e c _ fun b M1 F1 H1 n1 h1 => by
    cases b with
    | true => exact g true M1 F1 H1 n1 (h1.1 rfl)
    | false => exact h1.2 rfl F1 H1 σ n1.st (e.mono n1.ex) (c.next n1) Q (g.next n1)
theorem XT.not (h : XT C t ds M fun b M1 => kt (!b) M1) : XT C (tNot t) ds M kt := fun F H σ s e c Q g =>
  h F H σ s e c _ fun b M1 F1 H1 n1 h1 => g (!b) M1 F1 H1 n1 h1

/-! ### arguments, displays -/
variable {ka : List D → Mem → Prop} {tr : TA}
theorem XA.nil (h : ka [] M) : XA C tNil ds M ka := fun F H σ s e c Q g => g [] M [] F H (Nxt.refl s) .nil h
theorem XA.cons (h : XE C te ds M fun x M1 => XA C tr ds M1 fun xs M2 => ka (x :: xs) M2) : XA C (tCons te tr) ds M ka := fun F H σ s e c Q g =>
  h F H σ s e c _ fun x M1 v F1 H1 n1 r1 h1 => h1 F1 H1 σ n1.st (e.mono n1.ex) (c.next n1) _ fun xs M2 vs F2 H2 n2 r2 h2 => g _ M2 _ F2 H2 (n1.trans n2) (.cons (r1.mono n2.ex) r2) h2
theorem sz {n : Nat} (h : n ≤ 16000000) : n ≤ sizeLine := by rw [sizeLine_eq]; omega
theorem sz1 {n : Nat} (h : n < 16000000) : n < sizeLine := by rw [sizeLine_eq]; omega
theorem XE.tup (h : XA C tr ds M fun xs M1 => xs.length ≤ 16000000 ∧ k (.tup xs) M1) : XE C (tTup tr) ds M k := fun F H σ s e c Q g =>
  h F H σ s e c _ fun xs M1 vs F1 H1 n1 r1 h1 => ⟨by rw [← r1.length]; exact sz h1.1, fun p hp => by
    have n2 := Nxt.newF n1.st (o := .tup vs) hp
    exact g _ _ _ _ _ (n1.trans n2) (.tup (.inl (.inl upd_same)) (r1.mono n2.ex)) h1.2⟩
/-- a list display that stands still -/
theorem XE.lstF (h : XA C tr ds M fun xs M1 => xs.length ≤ 16000000 ∧ k (.lst xs) M1) : XE C (tLst tr) ds M k := fun F H σ s e c Q g =>
  h F H σ s e c _ fun xs M1 vs F1 H1 n1 r1 h1 => ⟨by rw [← r1.length]; exact sz h1.1, fun p hp => by
    have n2 := Nxt.newF n1.st (o := .lst vs) hp
    exact g _ _ _ _ _ (n1.trans n2) (.lst upd_same (r1.mono n2.ex)) h1.2⟩
/-- .. that is owned -/
theorem XE.lstM (h : XA C tr ds M fun xs M1 => xs.length ≤ 16000000 ∧ ∀ p, p ∉ dom M1 → k (.raw p) ((p, .lst xs) :: M1)) : XE C (tLst tr) ds M k := fun F H σ s e c Q g =>
  h F H σ s e c _ fun xs M1 vs F1 H1 n1 r1 h1 => ⟨by rw [← r1.length]; exact sz h1.1, fun p hp => by
    have n2 := Nxt.newM n1.st (o := .lst vs) (m := .lst xs) hp ⟨vs, rfl, r1⟩
    exact g _ _ _ _ _ (n1.trans n2) (.raw p) (h1.2 p (n1.st.out hp))⟩

/-! ### operators -/
variable {K : PySem.W.Frag} {x y : D}
theorem XR.orL (h : XR K r x y M k) : XR K (fun x y H Q => r x y H Q ∨ r' x y H Q) x y M k := fun F H v u s r1 r2 Q g => .inl (h F H v u s r1 r2 Q g)
theorem XR.orR (h : XR K r' x y M k) : XR K (fun x y H Q => r x y H Q ∨ r' x y H Q) x y M k := fun F H v u s r1 r2 Q g => .inr (h F H v u s r1 r2 Q g)
theorem XR.i0 {f : Int → Int → Int} {i j : Int} (h : k (.int (f i j)) M) : XR K (rI0 fun i j => .int (f i j)) (.int i) (.int j) M k := fun F H v u s r1 r2 Q g => by
  cases r1
  cases r2
  exact ⟨i, j, rfl, rfl, g.now s (.int _) h⟩
theorem XR.b0 {f : Int → Int → Bool} {i j : Int} (h : k (.bl (f i j)) M) : XR K (rI0 fun i j => .bl (f i j)) (.int i) (.int j) M k := fun F H v u s r1 r2 Q g => by
  cases r1
  cases r2
  exact ⟨i, j, rfl, rfl, g.now s (.bl _) h⟩
theorem XR.i {f : Int → Int → Int} {Cd : Int → Int → Prop} {i j : Int} (hc : Cd i j) (h : k (.int (f i j)) M) : XR K (rI Cd fun i j => .int (f i j)) (.int i) (.int j) M k := fun F H v u s r1 r2 Q g => by
  cases r1
  cases r2
  exact ⟨i, j, rfl, rfl, hc, g.now s (.int _) h⟩
theorem XU.neg {i : Int} (h : k (.int (-i)) M) : XU K (rU fun i => .int (-i)) (.int i) M k := fun F H v s r1 Q g => by
  cases r1
  exact ⟨i, rfl, g.now s (.int _) h⟩
/-- // by any divisor but 0, below 2 ^ 9000 -/
def CDivZ (_ j : Int) : Prop := j ≠ 0 ∧ j.natAbs.log2 < 9000
theorem op_fdivZ {X : Cx} : OpR X (binaryOp .FloorDiv) (rI CDivZ fun i j => .int (i.fdiv j)) := opI fun i j _ _ _ _ _ hc q =>
  floordiv_int hc.1 q (.inl (PyProof.noPylong_of_log2 hc.2))
/-- texts -/
def rAddS : R2 := fun x y H Q => ∃ i j, x = .str i ∧ y = .str j ∧ i.length + j.length ≤ sizeLine ∧ Q (.str (i ++ j)) H
def rAddU (K : PySem.W.Frag) : R2 := fun x y H Q => rI0 (fun i j => .int (i + j)) x y H Q ∨ rAddS x y H Q ∨ rCatA K x y H Q ∨ rCat x y H Q
theorem op_addU {X : Cx} : OpR X (binaryOp .Add) (rAddU X.K) := OpR.or op_add (OpR.or op_add_str (OpR.or op_catA op_cat))
theorem XR.add_int {i j : Int} (h : k (.int (i + j)) M) : XR K (rAddU K) (.int i) (.int j) M k := XR.orL (XR.i0 h)
theorem XR.add_str {i j : Str} (hl : i.length + j.length ≤ 16000000) (h : k (.str (i ++ j)) M) : XR K (rAddU K) (.str i) (.str j) M k := fun F H v u s r1 r2 Q g => .inr (.inl (by
  cases r1
  cases r2
  exact ⟨i, j, rfl, rfl, sz hl, g.now s (.str _) h⟩))
theorem XR.add_tup {xs ys : List D} (hl : xs.length + ys.length ≤ 16000000) (h : k (.tup (xs ++ ys)) M) : XR K (rAddU K) (.tup xs) (.tup ys) M k := fun F H v u s r1 r2 Q g => .inr (.inr (.inl (by
  cases r1 with
  | @tup a vs _ h1 q1 =>
    cases r2 with
    | @tup b us _ h2 q2 =>
      refine ⟨a, b, vs, us, rfl, rfl, ex_t s.ex h1, ex_t s.ex h2, by rw [← q1.length, ← q2.length]; exact sz hl, fun e => ?_, fun _ e => ?_, fun _ _ p hp => ?_⟩
      · subst e
        have e : xs = [] := List.length_eq_zero_iff.mp (by rw [q1.length]; rfl)
        subst e
        exact g.now s (.tup h2 q2) h
      · subst e
        have e : ys = [] := List.length_eq_zero_iff.mp (by rw [q2.length]; rfl)
        subst e
        rw [List.append_nil] at h
        exact g.now s (.tup h1 q1) h
      · have n := Nxt.newF s (o := .tup (vs ++ us)) hp
        exact g _ _ _ _ _ n (.tup (.inl (.inl upd_same)) ((q1.append q2).mono n.ex)) h)))
/-- how a list stands: still, or owned -/
inductive LsAt (M : Mem) : D → List D → Prop
  | lst {xs} : LsAt M (.lst xs) xs
  | raw {p xs} : At M p (.lst xs) → LsAt M (.raw p) xs
theorem LsAt.get {F H : Hp} {x : D} {xs : List D} {v : V} (h : LsAt M x xs) (s : Stt K F H M) (r : Rep K F x v) : ∃ p vs, v = .ref p ∧ H p = some (.lst vs) ∧ Reps K F xs vs := by
  cases h with
  | lst =>
    cases r with
    | lst h q => exact ⟨_, _, rfl, s.ex _ _ h, q⟩
  | raw ha =>
    cases r
    obtain ⟨_, o, h1, vs, rfl, q⟩ := s.at ha
    exact ⟨_, _, rfl, h1, q⟩
theorem XR.add_lst {xs ys : List D} {x y : D} (hx : LsAt M x xs) (hy : LsAt M y ys) (hl : xs.length + ys.length ≤ 16000000) (h : k (.lst (xs ++ ys)) M) : XR K (rAddU K) x y M k := fun F H v u s r1 r2 Q g => .inr (.inr (.inr (by
  obtain ⟨a, vs, rfl, h1, q1⟩ := hx.get s r1
  obtain ⟨b, us, rfl, h2, q2⟩ := hy.get s r2
  refine ⟨a, b, vs, us, rfl, rfl, h1, h2, by rw [← q1.length, ← q2.length]; exact sz hl, fun p hp => ?_⟩
  have n := Nxt.newF s (o := .lst (vs ++ us)) hp
  exact g _ _ _ _ _ n (.lst upd_same ((q1.append q2).mono n.ex)) h)))
theorem XR.add_lstM {xs ys : List D} {x y : D} (hx : LsAt M x xs) (hy : LsAt M y ys) (hl : xs.length + ys.length ≤ 16000000) (h : ∀ p, p ∉ dom M → k (.raw p) ((p, .lst (xs ++ ys)) :: M)) : XR K (rAddU K) x y M k := fun F H v u s r1 r2 Q g => .inr (.inr (.inr (by
  obtain ⟨a, vs, rfl, h1, q1⟩ := hx.get s r1
  obtain ⟨b, us, rfl, h2, q2⟩ := hy.get s r2
  refine ⟨a, b, vs, us, rfl, rfl, h1, h2, by rw [← q1.length, ← q2.length]; exact sz hl, fun p hp => ?_⟩
  have n := Nxt.newM s (o := .lst (vs ++ us)) (m := .lst (xs ++ ys)) hp ⟨_, rfl, q1.append q2⟩
  exact g _ _ _ _ _ n (.raw p) (h p (s.out hp)))))
end
end DL

namespace DL
open PySem L2 PyProof.Rows

/-! ### sequences by place -/
section
variable {K : PySem.W.Frag} {F H : Hp} {M : Mem} {k : D → Mem → Prop}
theorem Reps.atI {ds : List D} {vs : List V} {i : Int} {d : D} (r : Reps K F ds vs) (h : L2.atI ds i = some d) : ∃ v, L2.atI vs i = some v ∧ Rep K F d v := by
  unfold L2.atI at h ⊢
  rw [← r.length]
  cases e : L2.ixN ds.length i with
  | none =>
    rw [e] at h
    cases h
  | some j =>
    rw [e] at h
    exact r.get h
theorem XR.ix_tup {xs : List D} {i : Int} {d : D} (h : L2.atI xs i = some d) (q : k d M) : XR K (rIx K) (.tup xs) (.int i) M k := fun F H v u s r1 r2 Q g => by
  cases r2
  cases r1 with
  | @tup a vs _ h1 q1 =>
    obtain ⟨w, hw, rw'⟩ := q1.atI h
    exact .inr (.inl ⟨a, vs, i, w, rfl, rfl, ex_t s.ex h1, hw, g.now s rw' q⟩)
theorem XR.ix_lst {x : D} {xs : List D} {i : Int} {d : D} (hx : LsAt M x xs) (h : L2.atI xs i = some d) (q : k d M) : XR K (rIx K) x (.int i) M k := fun F H v u s r1 r2 Q g => by
  cases r2
  obtain ⟨a, vs, rfl, h1, q1⟩ := hx.get s r1
  obtain ⟨w, hw, rw'⟩ := q1.atI h
  exact .inl ⟨a, vs, i, w, rfl, rfl, SqL.of h1, hw, g.now s rw' q⟩
theorem XR.ix_ro {xs : List D} {i : Int} {d : D} (h : L2.atI xs i = some d) (q : k d M) : XR K (rIx K) (.ro xs) (.int i) M k := fun F H v u s r1 r2 Q g => by
  cases r2
  cases r1 with
  | @ro a vs _ h1 q1 =>
    obtain ⟨w, hw, rw'⟩ := q1.atI h
    exact .inl ⟨a, vs, i, w, rfl, rfl, ex_l s.ex h1, hw, g.now s rw' q⟩
theorem XR.ix_str {z : Str} {i : Int} {c : Nat} (hz : z.length ≤ 16000000) (h : L2.atI z.cps.toList i = some c) (q : k (.str ⟨#[c]⟩) M) : XR K (rIx K) (.str z) (.int i) M k := fun F H v u s r1 r2 Q g => by
  cases r2
  cases r1
  exact .inr (.inr ⟨z, i, c, rfl, rfl, sz hz, h, g.now s (.str _) q⟩)

/-! ### slices -/
def cutD {α : Type} (xs : List α) (lo hi : Option Int) : List α := (xs.drop (HT.sIx xs.length 0 lo)).take (HT.sIx xs.length xs.length hi - HT.sIx xs.length 0 lo)
theorem Reps.cut {ds : List D} {vs : List V} (r : Reps K F ds vs) (lo hi : Option Int) : Reps K F (cutD ds lo hi) (cutV vs lo hi) := by
  unfold cutD cutV
  rw [← r.length]
  exact (r.drop _).take _
abbrev RS := V → Option Int → Option Int → Hp → VK → Prop
def XSl (K : PySem.W.Frag) (r : RS) (x : D) (lo hi : Option Int) (M : Mem) (k : D → Mem → Prop) : Prop :=
  ∀ F H vx, Stt K F H M → Rep K F x vx → ∀ Q : VK, Go K F H M k Q → r vx lo hi H Q
def GoO (K : PySem.W.Frag) (F H : Hp) (M : Mem) (k : Option Int → Mem → Prop) (Q : Option Int → Hp → Prop) : Prop := ∀ d M' F' H', Nxt K F H M F' H' M' → k d M' → Q d H'
def XO (C : Cfg) (to : TO) (ds : DS) (M : Mem) (k : Option Int → Mem → Prop) : Prop :=
  ∀ F H σ, Stt C.K F H M → EnvR C.K F ds σ → Cov C F H M → ∀ Q : Option Int → Hp → Prop, GoO C.K F H M k Q → to σ H Q
theorem XO.none {C : Cfg} {ds : DS} {k : Option Int → Mem → Prop} (q : k Option.none M) : XO C tNoPart ds M k := fun F H σ s e c Q g => g Option.none M F H (Nxt.refl s) q
theorem XO.some {C : Cfg} {ds : DS} {te : TE} {k : Option Int → Mem → Prop} (h : XE C te ds M fun x M1 => ∃ i, x = .int i ∧ k (Option.some i) M1) : XO C (tPart te) ds M k := fun F H σ s e c Q g =>
  h F H σ s e c _ fun x M1 v F1 H1 n1 r1 h1 => by
    obtain ⟨i, rfl, h2⟩ := h1
    cases r1
    exact ⟨i, rfl, g _ _ _ _ n1 h2⟩
theorem XE.slice {C : Cfg} {ds : DS} {r : RS} {te : TE} {tl th : TO} {k : D → Mem → Prop} (h : XE C te ds M fun x M1 => XO C tl ds M1 fun lo M2 => XO C th ds M2 fun hi M3 => XSl C.K r x lo hi M3 k) : XE C (tSl r te tl th) ds M k := fun F H σ s e c Q g =>
  h F H σ s e c _ fun x M1 v F1 H1 n1 r1 h1 => h1 F1 H1 σ n1.st (e.mono n1.ex) (c.next n1) _ fun lo M2 F2 H2 n2 h2 => h2 F2 H2 σ n2.st (e.mono (n1.trans n2).ex) (c.next (n1.trans n2)) _ fun hi M3 F3 H3 n3 h3 =>
    h3 F3 H3 v n3.st (r1.mono (n2.trans n3).ex) Q (g.next ((n1.trans n2).trans n3))
def rSlU (K : PySem.W.Frag) : RS := fun x lo hi H Q => rSlS x lo hi H Q ∨ rSlL K x lo hi H Q ∨ rSlA K x lo hi H Q
theorem sl_U {X : Cx} : SlR X (rSlU X.K) := SlR.or sl_str (SlR.or sl_list sl_tupA)
theorem XSl.str {z : Str} {lo hi : Option Int} (hz : z.length ≤ 16000000) (q : k (.str (cutS z lo hi)) M) : XSl K (rSlU K) (.str z) lo hi M k := fun F H v s r Q g => by
  cases r
  exact .inl ⟨z, rfl, sz hz, g.now s (.str _) q⟩
theorem XSl.lst {x : D} {xs : List D} {lo hi : Option Int} (hx : LsAt M x xs) (q : k (.lst (cutD xs lo hi)) M) : XSl K (rSlU K) x lo hi M k := fun F H v s r Q g => by
  obtain ⟨a, vs, rfl, h1, q1⟩ := hx.get s r
  refine .inr (.inl ⟨a, vs, rfl, SqL.of h1, fun p hp => ?_⟩)
  have n := Nxt.newF s (o := .lst (cutV vs lo hi)) hp
  exact g _ _ _ _ _ n (.lst upd_same ((q1.cut lo hi).mono n.ex)) q
theorem XSl.tup {xs : List D} {lo hi : Option Int} (q : k (.tup (cutD xs lo hi)) M) : XSl K (rSlU K) (.tup xs) lo hi M k := fun F H v s r Q g => by
  cases r with
  | @tup a vs _ h1 q1 =>
    refine .inr (.inr ⟨a, vs, rfl, ex_t s.ex h1, fun e => ?_, fun _ p hp => ?_⟩)
    · have e2 : cutD xs lo hi = xs := by
        unfold cutD
        rw [q1.length, e.1, e.2, Nat.sub_zero, List.drop_zero, ← q1.length]
        exact List.take_length
      rw [e2] at q
      exact g.now s (.tup h1 q1) q
    · have n := Nxt.newF s (o := .tup (cutV vs lo hi)) hp
      exact g _ _ _ _ _ n (.tup (.inl (.inl upd_same)) ((q1.cut lo hi).mono n.ex)) q

/-! ### == of data -/
mutual
def D.py : D → PyData
  | .non => .none
  | .bl b => .bool b
  | .int i => .int i
  | .str x => .str x
  | .tup xs => .tuple (pyAll xs)
  | .lst xs => .list (pyAll xs)
  | .ro xs => .list (pyAll xs)
  | .ins _ _ => .none
  | .dct _ => .none
  | .raw _ => .none
  | .ty _ => .none
  | .exc _ _ => .none
  | .fdct _ => .none
def pyAll : List D → List PyData
  | [] => []
  | x :: xs => D.py x :: pyAll xs
end
def okD : Nat → D → Bool
  | _, .non => true
  | _, .bl _ => true
  | _, .int _ => true
  | _, .str x => x.cps.all (· < 0x110000)
  | n + 1, .tup xs => xs.all (okD n)
  | n + 1, .lst xs => xs.all (okD n)
  | n + 1, .ro xs => xs.all (okD n)
  | _, _ => false
theorem okD_lay : ∀ (n : Nat) (d : D), okD n d = true → d.py.canLay0 = true ∧ d.py.depth ≤ n := by
  intro n
  induction n with
  | zero =>
    intro d h
    cases d <;> simp [okD] at h <;> simp [D.py, PyData.canLay0, PyData.depth, PyData.strOk, h]
    all_goals assumption
  | succ n ih =>
    have all : ∀ xs : List D, xs.all (okD n) = true → PyData.canLayAll0 (pyAll xs) = true ∧ PyData.depthAll (pyAll xs) ≤ n := by
      intro xs
      induction xs with
      | nil => intro _; simp [pyAll, PyData.canLayAll0, PyData.depthAll]
      | cons x xs ihx =>
        intro h
        rw [List.all_cons, Bool.and_eq_true] at h
        obtain ⟨h1, h2⟩ := ih x h.1
        obtain ⟨h3, h4⟩ := ihx h.2
        simp only [pyAll, PyData.canLayAll0, PyData.depthAll, h1, h3, Bool.and_self, true_and]
        omega
    intro d h
    cases d with
    | tup xs =>
      obtain ⟨h1, h2⟩ := all xs (by simpa [okD] using h)
      simp only [D.py, PyData.canLay0, PyData.depth, h1, true_and]
      omega
    | lst xs =>
      obtain ⟨h1, h2⟩ := all xs (by simpa [okD] using h)
      simp only [D.py, PyData.canLay0, PyData.depth, h1, true_and]
      omega
    | ro xs =>
      obtain ⟨h1, h2⟩ := all xs (by simpa [okD] using h)
      simp only [D.py, PyData.canLay0, PyData.depth, h1, true_and]
      omega
    | str x =>
      simp [okD] at h
      simp [D.py, PyData.canLay0, PyData.depth, PyData.strOk]
      exact h
    | _ => simp [okD] at h <;> simp [D.py, PyData.canLay0, PyData.depth]
theorem okD_shaped {n : Nat} {d : D} (h : okD n d = true) (hn : n ≤ 64) : SeqAt.shaped d.py = true := by
  obtain ⟨h1, h2⟩ := okD_lay n d h
  unfold SeqAt.shaped
  rw [h1, decide_eq_true (Nat.le_trans h2 hn)]
  rfl
theorem okD_dp (e : Ex F H) : ∀ (n : Nat) (d : D) (v : V), okD n d = true → Rep K F d v → Dp K H v d.py := by
  intro n
  induction n with
  | zero =>
    intro d v h r
    cases d <;> simp [okD] at h <;> cases r
    · exact .non
    · exact .bl _
    · exact .int _
    · exact .str _
  | succ n ih =>
    have all : ∀ (xs : List D) (vs : List V), xs.all (okD n) = true → Reps K F xs vs → DpAll K H vs (pyAll xs) := by
      intro xs
      induction xs with
      | nil =>
        intro vs _ r
        cases r
        exact .nil
      | cons x xs ihx =>
        intro vs h r
        rw [List.all_cons, Bool.and_eq_true] at h
        cases r with
        | cons r1 r2 => exact .cons (ih x _ h.1 r1) (ihx _ h.2 r2)
    intro d v h r
    cases d with
    | tup xs => cases r with | tup h1 q1 => exact .tup (ex_t e h1) (all xs _ (by simpa [okD] using h) q1)
    | lst xs => cases r with | lst h1 q1 => exact .lst (SqL.of (e _ _ h1)) (all xs _ (by simpa [okD] using h) q1)
    | ro xs => cases r with | ro h1 q1 => exact .lst (ex_l e h1) (all xs _ (by simpa [okD] using h) q1)
    | non => cases r; exact .non
    | bl _ => cases r; exact .bl _
    | int _ => cases r; exact .int _
    | str _ => cases r; exact .str _
    | _ => simp [okD] at h
def rEqU (K : PySem.W.Frag) : R2 := fun x y H Q => rEq x y H Q ∨ rEqD K x y H Q
def rNeU (K : PySem.W.Frag) : R2 := fun x y H Q => rNe x y H Q ∨ rNeD K x y H Q
theorem op_eqU {X : Cx} (hu : X.A.units + 64 < cLine) : OpR X (compareOp .Eq) (rEqU X.K) := OpR.or op_eq (op_eqD hu)
theorem op_neU {X : Cx} (hu : X.A.units + 64 < cLine) : OpR X (compareOp .NotEq) (rNeU X.K) := OpR.or op_ne (op_neD hu)
theorem XR.eq_int {i j : Int} (h : k (.bl (decide (i = j))) M) : XR K (rEqU K) (.int i) (.int j) M k := fun F H v u s r1 r2 Q g => by
  cases r1
  cases r2
  refine .inl ⟨rfl, ?_⟩
  have e : decide (V.int i = V.int j) = decide (i = j) := by simp
  rw [e]
  exact g.now s (.bl _) h
theorem XR.ne_int {i j : Int} (h : k (.bl (!decide (i = j))) M) : XR K (rNeU K) (.int i) (.int j) M k := fun F H v u s r1 r2 Q g => by
  cases r1
  cases r2
  refine .inl ⟨rfl, ?_⟩
  have e : decide (V.int i = V.int j) = decide (i = j) := by simp
  rw [e]
  exact g.now s (.bl _) h
theorem XR.eq_str {i j : Str} (h : k (.bl (decide (i = j))) M) : XR K (rEqU K) (.str i) (.str j) M k := fun F H v u s r1 r2 Q g => by
  cases r1
  cases r2
  refine .inl ⟨rfl, ?_⟩
  have e : decide (V.str i = V.str j) = decide (i = j) := by simp
  rw [e]
  exact g.now s (.bl _) h
theorem XR.ne_str {i j : Str} (h : k (.bl (!decide (i = j))) M) : XR K (rNeU K) (.str i) (.str j) M k := fun F H v u s r1 r2 Q g => by
  cases r1
  cases r2
  refine .inl ⟨rfl, ?_⟩
  have e : decide (V.str i = V.str j) = decide (i = j) := by simp
  rw [e]
  exact g.now s (.bl _) h
/-- how a thing looks to == : itself, or the list that is owned -/
inductive SeAt (M : Mem) : D → D → Prop
  | self {d} : SeAt M d d
  | raw {p xs} : At M p (.lst xs) → SeAt M (.raw p) (.lst xs)
theorem SeAt.dp {x d : D} {v : V} {n : Nat} (h : SeAt M x d) (s : Stt K F H M) (r : Rep K F x v) (hd : okD n d = true) : Dp K H v d.py := by
  cases h with
  | self => exact okD_dp s.ex n _ _ hd r
  | raw ha =>
    cases r
    obtain ⟨_, o, h1, vs, rfl, q⟩ := s.at ha
    cases n with
    | zero => simp [okD] at hd
    | succ n =>
      have all : ∀ (xs : List D) (vs : List V), xs.all (okD n) = true → Reps K F xs vs → DpAll K H vs (pyAll xs) := by
        intro xs
        induction xs with
        | nil =>
          intro vs _ r
          cases r
          exact .nil
        | cons x xs ihx =>
          intro vs h r
          rw [List.all_cons, Bool.and_eq_true] at h
          cases r with
          | cons r1 r2 => exact .cons (okD_dp s.ex n _ _ h.1 r1) (ihx _ h.2 r2)
      exact .lst (SqL.of h1) (all _ _ (by simpa [okD] using hd) q)
theorem XR.eqD {x y d e : D} {n m : Nat} (hx : SeAt M x d) (hy : SeAt M y e) (hd : okD n d = true) (he : okD m e = true) (hn : n ≤ 64) (hm : m ≤ 64) (h : k (.bl (PyData.eqv d.py e.py)) M) : XR K (rEqU K) x y M k := fun F H v u s r1 r2 Q g =>
  .inr ⟨d.py, e.py, hx.dp s r1 hd, hy.dp s r2 he, okD_shaped hd hn, okD_shaped he hm, g.now s (.bl _) h⟩
theorem XR.neD {x y d e : D} {n m : Nat} (hx : SeAt M x d) (hy : SeAt M y e) (hd : okD n d = true) (he : okD m e = true) (hn : n ≤ 64) (hm : m ≤ 64) (h : k (.bl (!PyData.eqv d.py e.py)) M) : XR K (rNeU K) x y M k := fun F H v u s r1 r2 Q g =>
  .inr ⟨d.py, e.py, hx.dp s r1 hd, hy.dp s r2 he, okD_shaped hd hn, okD_shaped he hm, g.now s (.bl _) h⟩

/-! no bools within: == is identity -/
mutual
def nobl : PyData → Bool
  | .bool _ => false
  | .dict _ => false
  | .list xs => noblAll xs
  | .tuple xs => noblAll xs
  | _ => true
def noblAll : List PyData → Bool
  | [] => true
  | x :: xs => nobl x && noblAll xs
end
mutual
theorem eqv_iff : ∀ (a b : PyData), nobl a = true → nobl b = true → (PyData.eqv a b = true ↔ a = b)
  | .none, b, _, _ => by cases b <;> simp [PyData.eqv]
  | .bool _, _, h, _ => by simp [nobl] at h
  | .int i, b, _, hb => by cases b <;> simp [PyData.eqv, nobl] at hb ⊢
  | .str i, b, _, hb => by cases b <;> simp [PyData.eqv, nobl] at hb ⊢
  | .list xs, b, ha, hb => by
    cases b <;> simp [PyData.eqv, nobl] at ha hb ⊢
    exact eqv_iffs xs _ ha hb
  | .tuple xs, b, ha, hb => by
    cases b <;> simp [PyData.eqv, nobl] at ha hb ⊢
    exact eqv_iffs xs _ ha hb
  | .dict _, _, h, _ => by simp [nobl] at h
theorem eqv_iffs : ∀ (a b : List PyData), noblAll a = true → noblAll b = true → (PyData.eqvAll a b = true ↔ a = b)
  | [], b, _, _ => by cases b <;> simp [PyData.eqvAll]
  | x :: xs, [], _, _ => by simp [PyData.eqvAll]
  | x :: xs, y :: ys, ha, hb => by
    simp only [noblAll, Bool.and_eq_true] at ha hb
    simp only [PyData.eqvAll, Bool.and_eq_true, List.cons.injEq, eqv_iff x y ha.1 hb.1, eqv_iffs xs ys ha.2 hb.2]
end

/-! ### in -/
/-- d in a tuple of data -/
def rInT (K : PySem.W.Frag) (neg : Bool) : R2 := fun x y H Q => ∃ d ds, Dp K H x d ∧ (Dp K H y (.tuple ds) ∨ Dp K H y (.list ds)) ∧ SeqAt.shaped d = true ∧ SeqAt.shaped (.list ds) = true ∧ Q (.bl (if neg then !ds.any (fun z => PyData.eqv z d) else ds.any fun z => PyData.eqv z d)) H
end
end DL

namespace DL
open PySem L2 PyProof.Rows

/-! ### in, over data -/
def rInU (K : PySem.W.Frag) : R2 := fun x y H Q => ∃ d ds, Dp K H x d ∧ (Dp K H y (.tuple ds) ∨ Dp K H y (.list ds)) ∧ SeqAt.shaped d = true ∧ SeqAt.shaped (.list ds) = true ∧ Q (.bl (ds.any fun z => PyData.eqv z d)) H
def rNiU (K : PySem.W.Frag) : R2 := fun x y H Q => ∃ d ds, Dp K H x d ∧ (Dp K H y (.tuple ds) ∨ Dp K H y (.list ds)) ∧ SeqAt.shaped d = true ∧ SeqAt.shaped (.list ds) = true ∧ Q (.bl (!ds.any fun z => PyData.eqv z d)) H
theorem op_inU {X : Cx} (hu : X.A.units + 65 < cLine) : OpR X (compareOp .In) (rInU X.K) := by
  intro pins s σ H x y v u Q I rx ry h
  obtain ⟨d, ds, hd, he, sd, se, q⟩ := h
  obtain ⟨as, r1⟩ := Dp.reads I d x v hd rx
  rcases he with he | he
  · obtain ⟨bs, r2⟩ := Dp.reads I (.tuple ds) y u he ry
    exact SeqAt.in_tuple_reads r2 r1 (SeqAt.canLay_of_shaped se) (SeqAt.canLay_of_shaped sd) (room_in_shaped sd hu) ⟨.bl _, H, I, rfl, q⟩
  · obtain ⟨bs, r2⟩ := Dp.reads I (.list ds) y u he ry
    exact SeqAt.in_list_reads r2 r1 (SeqAt.canLay_of_shaped se) (SeqAt.canLay_of_shaped sd) (room_in_shaped sd hu) ⟨.bl _, H, I, rfl, q⟩
theorem op_niU {X : Cx} (hu : X.A.units + 65 < cLine) : OpR X (compareOp .NotIn) (rNiU X.K) := by
  intro pins s σ H x y v u Q I rx ry h
  obtain ⟨d, ds, hd, he, sd, se, q⟩ := h
  obtain ⟨as, r1⟩ := Dp.reads I d x v hd rx
  rcases he with he | he
  · obtain ⟨bs, r2⟩ := Dp.reads I (.tuple ds) y u he ry
    exact SeqAt.notIn_tuple_reads r2 r1 (SeqAt.canLay_of_shaped se) (SeqAt.canLay_of_shaped sd) (room_in_shaped sd hu) ⟨.bl _, H, I, rfl, q⟩
  · obtain ⟨bs, r2⟩ := Dp.reads I (.list ds) y u he ry
    exact SeqAt.notIn_list_reads r2 r1 (SeqAt.canLay_of_shaped se) (SeqAt.canLay_of_shaped sd) (room_in_shaped sd hu) ⟨.bl _, H, I, rfl, q⟩
/-- one sign in a text -/
def rInC : R2 := fun x y H Q => ∃ (c : Nat) (z : Str), x = .str ⟨#[c]⟩ ∧ y = .str z ∧ Q (.bl (decide (c ∈ z.cps.toList))) H
def rNiC : R2 := fun x y H Q => ∃ (c : Nat) (z : Str), x = .str ⟨#[c]⟩ ∧ y = .str z ∧ Q (.bl (!decide (c ∈ z.cps.toList))) H
def rInV (K : PySem.W.Frag) : R2 := fun x y H Q => rInC x y H Q ∨ rInU K x y H Q
def rNiV (K : PySem.W.Frag) : R2 := fun x y H Q => rNiC x y H Q ∨ rNiU K x y H Q
theorem op_inV {X : Cx} (hu : X.A.units + 65 < cLine) : OpR X (compareOp .In) (rInV X.K) := OpR.or op_in_sign (op_inU hu)
theorem op_niV {X : Cx} (hu : X.A.units + 65 < cLine) : OpR X (compareOp .NotIn) (rNiV X.K) := OpR.or op_notIn_sign (op_niU hu)

section
variable {K : PySem.W.Frag} {F H : Hp} {M : Mem} {k : D → Mem → Prop}
theorem XR.in_sign {c : Nat} {z : Str} (h : k (.bl (decide (c ∈ z.cps.toList))) M) : XR K (rInV K) (.str ⟨#[c]⟩) (.str z) M k := fun F H v u s r1 r2 Q g => by
  cases r1
  cases r2
  exact .inl ⟨c, z, rfl, rfl, g.now s (.bl _) h⟩
theorem XR.ni_sign {c : Nat} {z : Str} (h : k (.bl (!decide (c ∈ z.cps.toList))) M) : XR K (rNiV K) (.str ⟨#[c]⟩) (.str z) M k := fun F H v u s r1 r2 Q g => by
  cases r1
  cases r2
  exact .inl ⟨c, z, rfl, rfl, g.now s (.bl _) h⟩
/-- a sequence as == sees it -/
inductive SqAt (M : Mem) : D → List D → Prop
  | tup {xs} : SqAt M (.tup xs) xs
  | lst {xs} : SqAt M (.lst xs) xs
  | ro {xs} : SqAt M (.ro xs) xs
  | raw {p xs} : At M p (.lst xs) → SqAt M (.raw p) xs
theorem okL {n : Nat} {xs : List D} (h : okD n (.lst xs) = true) : ∃ m, n = m + 1 ∧ xs.all (okD m) = true := by
  cases n with
  | zero => simp [okD] at h
  | succ m => exact ⟨m, rfl, by simpa [okD] using h⟩
theorem SqAt.dp {y : D} {xs : List D} {v : V} {n : Nat} (h : SqAt M y xs) (s : Stt K F H M) (r : Rep K F y v) (hd : okD n (.lst xs) = true) : Dp K H v (.tuple (pyAll xs)) ∨ Dp K H v (.list (pyAll xs)) := by
  obtain ⟨m, rfl, hm⟩ := okL hd
  cases h with
  | tup => exact .inl (okD_dp s.ex (m + 1) (.tup xs) v (by simpa [okD] using hm) r)
  | lst => exact .inr (okD_dp s.ex (m + 1) (.lst xs) v hd r)
  | ro => exact .inr (okD_dp s.ex (m + 1) (.ro xs) v (by simpa [okD] using hm) r)
  | raw ha => exact .inr ((SeAt.raw ha).dp s r hd)
theorem XR.inD {x y d : D} {ys : List D} {n m : Nat} (hx : SeAt M x d) (hy : SqAt M y ys) (hd : okD n d = true) (he : okD m (.lst ys) = true) (hn : n ≤ 64) (hm : m ≤ 64) (h : k (.bl ((pyAll ys).any fun z => PyData.eqv z d.py)) M) : XR K (rInV K) x y M k := fun F H v u s r1 r2 Q g =>
  .inr ⟨d.py, pyAll ys, hx.dp s r1 hd, hy.dp s r2 he, okD_shaped hd hn, okD_shaped (d := .lst ys) he hm, g.now s (.bl _) h⟩
theorem XR.niD {x y d : D} {ys : List D} {n m : Nat} (hx : SeAt M x d) (hy : SqAt M y ys) (hd : okD n d = true) (he : okD m (.lst ys) = true) (hn : n ≤ 64) (hm : m ≤ 64) (h : k (.bl (!(pyAll ys).any fun z => PyData.eqv z d.py)) M) : XR K (rNiV K) x y M k := fun F H v u s r1 r2 Q g =>
  .inr ⟨d.py, pyAll ys, hx.dp s r1 hd, hy.dp s r2 he, okD_shaped hd hn, okD_shaped (d := .lst ys) he hm, g.now s (.bl _) h⟩
/-- is None -/
def rIsN' : R2 := fun x y H Q => y = .non ∧ Q (.bl (decide (x = .non))) H
def rNtN' : R2 := fun x y H Q => y = .non ∧ Q (.bl (!decide (x = .non))) H
theorem op_isN' {X : Cx} : OpR X (compareOp .Is) rIsN' := op_isN
theorem op_ntN' {X : Cx} : OpR X (compareOp .IsNot) rNtN' := op_notN
def D.isNon : D → Bool
  | .non => true
  | _ => false
theorem Rep.isNon {d : D} {v : V} (r : Rep K F d v) : decide (v = .non) = d.isNon := by
  cases r <;> rfl
theorem XR.isN {x : D} (h : k (.bl x.isNon) M) : XR K rIsN' x .non M k := fun F H v u s r1 r2 Q g => by
  cases r2
  refine ⟨rfl, ?_⟩
  rw [r1.isNon]
  exact g.now s (.bl _) h
theorem XR.ntN {x : D} (h : k (.bl (!x.isNon)) M) : XR K rNtN' x .non M k := fun F H v u s r1 r2 Q g => by
  cases r2
  refine ⟨rfl, ?_⟩
  rw [r1.isNon]
  exact g.now s (.bl _) h

/-! ### calls on values -/
theorem XE.cb {C : Cfg} {ds : DS} {r : List V → Hp → VK → Prop} {t : TA} (h : XA C t ds M fun xs M1 => XC C.K r xs M1 k) : XE C (tCB r t) ds M k := fun F H σ s e c Q g =>
  h F H σ s e c _ fun xs M1 vs F1 H1 n1 r1 h1 => h1 F1 H1 vs n1.st r1 Q (g.next n1)
def rLenN (K : PySem.W.Frag) : List V → Hp → VK → Prop := fun xs H Q => ∃ x n, xs = [x] ∧ LenV K x H n ∧ Q (.int n) H
def rLenD : List V → Hp → VK → Prop := fun xs H Q => ∃ a kvs, xs = [V.ref a] ∧ H a = some (.dK kvs) ∧ Q (.int kvs.length) H
def rLenU (K : PySem.W.Frag) : List V → Hp → VK → Prop := fun xs H Q => rLenN K xs H Q ∨ rLenD xs H Q
theorem cr_len {X : Cx} : CallR X (.builtin "len") (rLenU X.K) := CallR.or call_len call_lenD
theorem XC.len {y : D} {xs : List D} (hy : SqAt M y xs) (h : k (.int xs.length) M) : XC K (rLenU K) [y] M k := fun F H vs s r Q g => by
  cases r with
  | cons r1 r2 =>
    cases r2
    refine .inl ?_
    cases hy with
    | tup =>
      cases r1 with
      | @tup a us _ h1 q1 => exact ⟨.ref a, us.length, rfl, .inr ⟨us, ex_t s.ex h1, rfl⟩, by rw [← q1.length]; exact g.now s (.int _) h⟩
    | lst =>
      cases r1 with
      | @lst a us _ h1 q1 => exact ⟨.ref a, us.length, rfl, .inl ⟨us, SqL.of (s.ex _ _ h1), rfl⟩, by rw [← q1.length]; exact g.now s (.int _) h⟩
    | ro =>
      cases r1 with
      | @ro a us _ h1 q1 => exact ⟨.ref a, us.length, rfl, .inl ⟨us, ex_l s.ex h1, rfl⟩, by rw [← q1.length]; exact g.now s (.int _) h⟩
    | @raw p _ ha =>
      cases r1
      obtain ⟨_, o, h1, us, rfl, q1⟩ := s.at ha
      exact ⟨.ref p, us.length, rfl, .inl ⟨us, SqL.of h1, rfl⟩, by rw [← q1.length]; exact g.now s (.int _) h⟩
theorem XC.len_str {z : Str} (hz : z.length ≤ 16000000) (h : k (.int z.length) M) : XC K (rLenU K) [.str z] M k := fun F H vs s r Q g => by
  cases r with
  | cons r1 r2 =>
    cases r2
    cases r1
    exact .inl ⟨.str z, z.length, rfl, ⟨sz hz, rfl⟩, g.now s (.int _) h⟩
theorem RepK.length {F : Hp} : ∀ {fs : List (Key × D)} {gs : List (Key × V)}, RepK K F fs gs → fs.length = gs.length
  | _, _, .nil => rfl
  | _, _, .cons _ r => by rw [List.length_cons, List.length_cons, RepK.length r]
/-- how a dict stands -/
inductive DcAt (M : Mem) : D → List (Key × D) → Prop
  | dct {kvs} : DcAt M (.dct kvs) kvs
  | raw {p kvs} : At M p (.dct kvs) → DcAt M (.raw p) kvs
theorem DcAt.get {x : D} {es : List (Key × D)} {v : V} (h : DcAt M x es) (s : Stt K F H M) (r : Rep K F x v) : ∃ p kvs, v = .ref p ∧ H p = some (.dK kvs) ∧ RepK K F es kvs := by
  cases h with
  | dct =>
    cases r with
    | dct h q => exact ⟨_, _, rfl, s.ex _ _ h, q⟩
  | raw ha =>
    cases r
    obtain ⟨_, o, h1, vs, rfl, q⟩ := s.at ha
    exact ⟨_, _, rfl, h1, q⟩
theorem XC.len_dct {y : D} {es : List (Key × D)} (hy : DcAt M y es) (h : k (.int es.length) M) : XC K (rLenU K) [y] M k := fun F H vs s r Q g => by
  cases r with
  | cons r1 r2 =>
    cases r2
    obtain ⟨a, kvs, rfl, h1, q1⟩ := hy.get s r1
    exact .inr ⟨a, kvs, rfl, h1, by rw [← q1.length]; exact g.now s (.int _) h⟩
def rAbs : List V → Hp → VK → Prop := fun xs H Q => ∃ i, xs = [.int i] ∧ Q (.int (if i < 0 then -i else i)) H
theorem cr_abs {X : Cx} : CallR X (.builtin "abs") rAbs := call_abs
theorem abs_eq (i : Int) : (if i < 0 then -i else i) = (i.natAbs : Int) := by split <;> omega
theorem XC.abs {i : Int} (h : k (.int (i.natAbs : Int)) M) : XC K rAbs [.int i] M k := fun F H vs s r Q g => by
  cases r with
  | cons r1 r2 =>
    cases r2
    cases r1
    exact ⟨i, rfl, by rw [abs_eq]; exact g.now s (.int _) h⟩
def rMax : List V → Hp → VK → Prop := fun xs H Q => ∃ i j, xs = [.int i, .int j] ∧ Q (.int (if j > i then j else i)) H
theorem cr_max2 {X : Cx} (hc : X.calm = true) : CallR X (.builtin "max") rMax := call_max2 hc
theorem XC.max2 {i j : Int} (h : k (.int (max i j)) M) : XC K rMax [.int i, .int j] M k := fun F H vs s r Q g => by
  cases r with
  | cons r1 r2 =>
    cases r2 with
    | cons r2 r3 =>
      cases r3
      cases r2
      cases r1
      refine ⟨i, j, rfl, ?_⟩
      have e : (if j > i then j else i) = max i j := by split <;> omega
      rw [e]
      exact g.now s (.int _) h
def rMin : List V → Hp → VK → Prop := fun xs H Q => ∃ i j, xs = [.int i, .int j] ∧ Q (.int (if j < i then j else i)) H
theorem cr_min2 {X : Cx} (hc : X.calm = true) : CallR X (.builtin "min") rMin := call_min2 hc
theorem XC.min2 {i j : Int} (h : k (.int (min i j)) M) : XC K rMin [.int i, .int j] M k := fun F H vs s r Q g => by
  cases r with
  | cons r1 r2 =>
    cases r2 with
    | cons r2 r3 =>
      cases r3
      cases r2
      cases r1
      refine ⟨i, j, rfl, ?_⟩
      have e : (if j < i then j else i) = min i j := by split <;> omega
      rw [e]
      exact g.now s (.int _) h
def rStrI : List V → Hp → VK → Prop := fun xs H Q => ∃ i : Int, xs = [.int i] ∧ i.natAbs.log2 < 1920 ∧ Q (.str (toString i)) H
theorem cr_strI {X : Cx} : CallR X (.type "str") rStrI := call_str_int
theorem XC.strI {i : Int} (hi : i.natAbs.log2 < 1920) (h : k (.str (toString i)) M) : XC K rStrI [.int i] M k := fun F H vs s r Q g => by
  cases r with
  | cons r1 r2 =>
    cases r2
    cases r1
    exact ⟨i, rfl, hi, g.now s (.str _) h⟩
def rInt1 : List V → Hp → VK → Prop := fun xs H Q => (∃ i, xs = [.int i] ∧ Q (.int i) H) ∨ ∃ k, xs = [.bl k] ∧ Q (.int (if k then 1 else 0)) H
def rIntS : List V → Hp → VK → Prop := fun xs H Q => ∃ a n, xs = [.str a] ∧ PySem.intText? a = some n ∧ a.length ≤ 640 ∧ Q (.int n) H
def rIntU : List V → Hp → VK → Prop := fun xs H Q => rInt1 xs H Q ∨ rIntS xs H Q
theorem cr_int {X : Cx} : CallR X (.type "int") rIntU := CallR.or call_int1 call_int_str
theorem XC.int_bl {b : Bool} (h : k (.int (if b then 1 else 0)) M) : XC K rIntU [.bl b] M k := fun F H vs s r Q g => by
  cases r with
  | cons r1 r2 =>
    cases r2
    cases r1
    exact .inl (.inr ⟨b, rfl, g.now s (.int _) h⟩)
theorem XC.int_str {a : Str} {n : Int} (hn : PySem.intText? a = some n) (hl : a.length ≤ 640) (h : k (.int n) M) : XC K rIntU [.str a] M k := fun F H vs s r Q g => by
  cases r with
  | cons r1 r2 =>
    cases r2
    cases r1
    exact .inr ⟨a, n, rfl, hn, hl, g.now s (.int _) h⟩
def rTupOf (K : PySem.W.Frag) : List V → Hp → VK → Prop := fun xs H Q => ∃ p ys, xs = [.ref p] ∧ ((SqL K H p ys ∧ ∀ l, H l = none → Q (.ref l) (upd H l (.tup ys))) ∨ (SqT K H p ys ∧ Q (.ref p) H))
theorem cr_tup {X : Cx} : CallR X (.type "tuple") (rTupOf X.K) := call_tuple_of
theorem XC.tup {y : D} {xs : List D} (hy : SqAt M y xs) (h : k (.tup xs) M) : XC K (rTupOf K) [y] M k := fun F H vs s r Q g => by
  cases r with
  | cons r1 r2 =>
    cases r2
    have go : ∀ (p : Addr) (us : List V), SqL K H p us → Reps K F xs us → rTupOf K [.ref p] H Q := fun p us hs q1 => ⟨p, us, rfl, .inl ⟨hs, fun l hl => by
      have n := Nxt.newF s (o := .tup us) hl
      exact g _ _ _ _ _ n (.tup (.inl (.inl upd_same)) (q1.mono n.ex)) h⟩⟩
    cases hy with
    | tup =>
      cases r1 with
      | @tup a us _ h1 q1 => exact ⟨a, us, rfl, .inr ⟨ex_t s.ex h1, g.now s (.tup h1 q1) h⟩⟩
    | lst =>
      cases r1 with
      | @lst a us _ h1 q1 => exact go a us (SqL.of (s.ex _ _ h1)) q1
    | ro =>
      cases r1 with
      | @ro a us _ h1 q1 => exact go a us (ex_l s.ex h1) q1
    | @raw p _ ha =>
      cases r1
      obtain ⟨_, o, h1, us, rfl, q1⟩ := s.at ha
      exact go p us (SqL.of h1) q1
def rLstOf (K : PySem.W.Frag) : List V → Hp → VK → Prop := fun xs H Q => ∃ p ys, xs = [.ref p] ∧ (SqL K H p ys ∨ SqT K H p ys) ∧ ∀ l, H l = none → Q (.ref l) (upd H l (.lst ys))
theorem cr_lst {X : Cx} : CallR X (.type "list") (rLstOf X.K) := call_list_of
theorem SqAt.get {y : D} {xs : List D} {v : V} (hy : SqAt M y xs) (s : Stt K F H M) (r1 : Rep K F y v) : ∃ p us, v = .ref p ∧ (SqL K H p us ∨ SqT K H p us) ∧ Reps K F xs us := by
  cases hy with
  | tup => cases r1 with | @tup a us _ h1 q1 => exact ⟨a, us, rfl, .inr (ex_t s.ex h1), q1⟩
  | lst => cases r1 with | @lst a us _ h1 q1 => exact ⟨a, us, rfl, .inl (SqL.of (s.ex _ _ h1)), q1⟩
  | ro => cases r1 with | @ro a us _ h1 q1 => exact ⟨a, us, rfl, .inl (ex_l s.ex h1), q1⟩
  | @raw p _ ha =>
    cases r1
    obtain ⟨_, o, h1, us, rfl, q1⟩ := s.at ha
    exact ⟨p, us, rfl, .inl (SqL.of h1), q1⟩
theorem XC.lst {y : D} {xs : List D} (hy : SqAt M y xs) (h : k (.lst xs) M) : XC K (rLstOf K) [y] M k := fun F H vs s r Q g => by
  cases r with
  | cons r1 r2 =>
    cases r2
    obtain ⟨p, us, rfl, hs, q1⟩ := hy.get s r1
    refine ⟨p, us, rfl, hs, fun l hl => ?_⟩
    have n := Nxt.newF s (o := .lst us) hl
    exact g _ _ _ _ _ n (.lst upd_same (q1.mono n.ex)) h
theorem XC.lstM {y : D} {xs : List D} (hy : SqAt M y xs) (h : ∀ p, p ∉ dom M → k (.raw p) ((p, .lst xs) :: M)) : XC K (rLstOf K) [y] M k := fun F H vs s r Q g => by
  cases r with
  | cons r1 r2 =>
    cases r2
    obtain ⟨p, us, rfl, hs, q1⟩ := hy.get s r1
    refine ⟨p, us, rfl, hs, fun l hl => ?_⟩
    have n := Nxt.newM s (o := .lst us) (m := .lst xs) hl ⟨_, rfl, q1⟩
    exact g _ _ _ _ _ n (.raw l) (h l (s.out hl))

/-! ### isinstance -/
def D.tyN : D → Option String
  | .non => some "NoneType"
  | .bl _ => some "bool"
  | .int _ => some "int"
  | .str _ => some "str"
  | .tup _ => some "tuple"
  | .lst _ => some "list"
  | .ro _ => some "list"
  | .dct _ => some "dict"
  | .fdct _ => some "dict"
  | _ => none
theorem Rep.tyX {d : D} {v : V} {n : String} (e : Ex F H) (r : Rep K F d v) (h : d.tyN = some n) : TyX K H v (.type n) := by
  cases r <;> simp [D.tyN] at h <;> subst h
  · exact .base .non
  · exact .base (.bl _)
  · exact .base (.int _)
  · exact .base (.str _)
  · rename_i a vs ds h1 q1
    rcases ex_t e h1 with (h2 | ⟨o, h2⟩) | ⟨o, its, n, h2, h3, _⟩
    · exact .base (.tup h2)
    · exact .fTuple h2
    · exact .kTuple h2 h3
  · rename_i a vs ds h1 q1
    exact .base (.lst (e _ _ h1))
  · rename_i a vs ds h1 q1
    rcases ex_l e h1 with (h2 | ⟨o, h2⟩) | ⟨o, its, n, h2, h3, _⟩
    · exact .base (.lst h2)
    · exact .base (.frz h2)
    · exact .kList h2 h3
  · rename_i a es kvs h1 q1
    exact .base (.dK (e _ _ h1))
  · rename_i h1 q1
    exact .fDict (e _ _ h1)
/-- what isinstance asks of a class whose instances are asked -/
structure TyC (K : PySem.W.Frag) (C : Addr) : Prop where
  cl : Cls K C
  ha : PySem.W.findIn K (.ref C) "__class__" = some (some (.builtin "object.__class__"))
  hn : PySem.W.specialIn K (.builtin "object.__class__") "__get__" = some (some (.builtin "getset_descriptor.__get__"))
  htk : PySem.W.takesIn K (.builtin "object.__class__") = some true
  hm : PySem.W.mroIn K C (.type "object") = some true
/-- how an instance stands -/
inductive InAt (M : Mem) : D → Addr → List (Str × D) → Prop
  | ins {C fs} : InAt M (.ins C fs) C fs
  | raw {p C fs} : At M p (.ins C fs) → InAt M (.raw p) C fs
theorem InAt.get {x : D} {C : Addr} {fs : List (Str × D)} {v : V} (h : InAt M x C fs) (s : Stt K F H M) (r : Rep K F x v) : ∃ p dx gs, v = .ref p ∧ H p = some (.ins C dx gs) ∧ RepF K F fs gs := by
  cases h with
  | ins =>
    cases r with
    | ins h q => exact ⟨_, _, _, rfl, s.ex _ _ h, q⟩
  | raw ha =>
    cases r
    obtain ⟨_, o, h1, dx, gs, rfl, q⟩ := s.at ha
    exact ⟨_, _, _, rfl, h1, q⟩
theorem XC.isi_ty {x : D} {a n : String} {b : Bool} (hx : x.tyN = some a) (hb : kitB a n = some b) (h : k (.bl b) M) : XC K (rIsi K) [x, .ty n] M k := fun F H vs s r Q g => by
  cases r with
  | cons r1 r2 =>
    cases r2 with
    | cons r2 r3 =>
      cases r3
      cases r2
      exact ⟨_, _, _, _, b, rfl, .ty n, r1.tyX s.ex hx, kit_ty hb, g.now s (.bl _) h⟩
theorem XC.isi_cls {x : D} {C : Addr} {a : String} {b : Bool} (hx : x.tyN = some a) (hb : PySem.W.kitOne K (.type a) (.ref C) = some b) (h : k (.bl b) M) : XC K (rIsi K) [x, .raw C] M k := fun F H vs s r Q g => by
  cases r with
  | cons r1 r2 =>
    cases r2 with
    | cons r2 r3 =>
      cases r3
      cases r2
      exact ⟨_, _, _, _, b, rfl, .own C, r1.tyX s.ex hx, hb, g.now s (.bl _) h⟩
theorem XC.isi_ins {x c : D} {C : Addr} {u : Value} {fs : List (Str × D)} {b : Bool} (hx : InAt M x C fs) (T : TyC K C) (hc : (∃ n, c = .ty n ∧ u = .type n) ∨ ∃ C', c = .raw C' ∧ u = .ref C') (hb : PySem.W.kitOne K (.ref C) u = some b) (h : k (.bl b) M) : XC K (rIsi K) [x, c] M k := fun F H vs s r Q g => by
  cases r with
  | cons r1 r2 =>
    cases r2 with
    | cons r2 r3 =>
      cases r3
      obtain ⟨p, dx, gs, rfl, h1, _⟩ := hx.get s r1
      rcases hc with ⟨n, rfl, rfl⟩ | ⟨C', rfl, rfl⟩
      · cases r2
        exact ⟨_, _, _, _, b, rfl, .ty n, .base (.ins h1 T.cl T.ha T.hn T.htk T.hm), hb, g.now s (.bl _) h⟩
      · cases r2
        exact ⟨_, _, _, _, b, rfl, .own C', .base (.ins h1 T.cl T.ha T.hn T.htk T.hm), hb, g.now s (.bl _) h⟩
def kitAnyB (a : String) : List String → Option Bool
  | [] => some false
  | n :: ns => match kitB a n with
    | some true => some true
    | some false => kitAnyB a ns
    | none => none
theorem kitAny_ty {K : PySem.W.Frag} {a : String} : ∀ {ns : List String} {b : Bool}, kitAnyB a ns = some b → PySem.W.kitAny K (.type a) (ns.map Value.type) = some b
  | [], b, h => by
    cases h
    exact kitAny_nil
  | n :: ns, b, h => by
    unfold kitAnyB at h
    cases e : kitB a n with
    | none =>
      rw [e] at h
      cases h
    | some c =>
      rw [e] at h
      cases c with
      | true =>
        cases h
        exact kitAny_cons (r := true) (kit_ty e) (fun z => by cases z) fun _ => rfl
      | false => exact kitAny_cons (kit_ty e) (fun _ => kitAny_ty h) fun z => by cases z
theorem paired_ty : ∀ {ns : List String} {vs : List V}, Reps K F (ns.map D.ty) vs → Paired ClsV vs (ns.map Value.type)
  | [], _, .nil => .nil
  | n :: ns, _, .cons r t => by
    cases r
    exact .cons (.ty n) (paired_ty t)
theorem XE.isiT {C : Cfg} {ds : DS} {ta : TE} {tr : TA} (h : XE C ta ds M fun x M1 => XA C tr ds M1 fun cs M2 => ∃ a b ns, cs = ns.map D.ty ∧ cs.length ≤ 16000000 ∧ x.tyN = some a ∧ kitAnyB a ns = some b ∧ k (.bl b) M2) :
    XE C (tCB (rIsiT C.K) (tCons ta (tCons (tTup tr) tNil))) ds M k := fun F H σ s e c Q g =>
  h F H σ s e c _ fun x M1 v F1 H1 n1 r1 h1 => h1 F1 H1 σ n1.st (e.mono n1.ex) (c.next n1) _ fun cs M2 vs F2 H2 n2 r2 h2 => by
    obtain ⟨a, b, ns, rfl, hl, hx, hb, q⟩ := h2
    refine ⟨by rw [← r2.length]; exact sz hl, fun p hp => ?_⟩
    have n3 := Nxt.newF n2.st (o := .tup vs) hp
    exact ⟨v, p, vs, _, ns.map Value.type, b, rfl, upd_same, paired_ty r2, (r1.mono (n2.trans n3).ex).tyX n3.st.ex hx, kitAny_ty hb, g _ _ _ _ _ ((n1.trans n2).trans n3) (.bl b) q⟩

/-! ### texts -/
def rSplit : V → List V → Hp → VK → Prop := fun x xs H Q => ∃ a b, x = .str a ∧ xs = [.str b] ∧ (b.length == 0) = false ∧ a.length + 2 ≤ sizeLine ∧ rNewStrs (Txt.split a b) H Q
def rJoin (K : PySem.W.Frag) : V → List V → Hp → VK → Prop := fun x xs H Q => ∃ a p, ∃ ys : List Str, x = .str a ∧ xs = [.ref p] ∧ (SqL K H p (ys.map V.str) ∨ SqT K H p (ys.map V.str)) ∧ (ys.map (·.length)).sum + ys.length * a.length ≤ 16777216 ∧ Q (.str (Txt.join a ys)) H
theorem XE.m1 {C : Cfg} {ds : DS} {r : V → List V → Hp → VK → Prop} {to te : TE} (h : XE C to ds M fun x M1 => (∃ a, x = .str a) ∧ XE C te ds M1 fun y M2 => XM C.K r x [y] M2 k) : XE C (tM1 r to te) ds M k := fun F H σ s e c Q g =>
  h F H σ s e c _ fun x M1 v F1 H1 n1 r1 h1 => by
    obtain ⟨⟨a, rfl⟩, h1⟩ := h1
    cases r1
    exact ⟨⟨a, rfl⟩, h1 F1 H1 σ n1.st (e.mono n1.ex) (c.next n1) _ fun y M2 u F2 H2 n2 r2 h2 => h2 F2 H2 _ _ n2.st (.str a) (.cons r2 .nil) Q ((g.next n1).next n2)⟩
theorem XM.split {a b : Str} (hb : (b.length == 0) = false) (ha : a.length ≤ 16000000) (h : k (.lst ((Txt.split a b).map D.str)) M) : XM K rSplit (.str a) [.str b] M k := fun F H v vs s r1 r2 Q g => by
  cases r1
  cases r2 with
  | cons r2 r3 =>
    cases r3
    cases r2
    refine ⟨a, b, rfl, rfl, hb, by rw [sizeLine_eq]; omega, fun p hp => ?_⟩
    have n := Nxt.newF s (o := .lst ((Txt.split a b).map V.str)) hp
    exact g _ _ _ _ _ n (.lst upd_same (Reps.ofStrs _)) h
theorem XM.join {a : Str} {y : D} {ys : List Str} (hy : SqAt M y (ys.map D.str)) (hl : (ys.map (·.length)).sum + ys.length * a.length ≤ 16777216) (h : k (.str (Txt.join a ys)) M) : XM K (rJoin K) (.str a) [y] M k := fun F H v vs s r1 r2 Q g => by
  cases r1
  cases r2 with
  | cons r2 r3 =>
    cases r3
    obtain ⟨p, us, rfl, hs, q⟩ := hy.get s r2
    rw [Reps.strs q] at hs
    exact ⟨a, p, ys, rfl, rfl, hs, hl, g.now s (.str _) h⟩
/-! f-strings -/
def tJn (ts : List TE) : TE := fun σ H Q => tJs ts Str.empty σ H fun out H1 => Q (.str out) H1
theorem pe_jn {X : Cx} {v1 v2 : Expr} {rest : List Expr} {ts : List TE} {pos : Pos} (h : PE X (.JoinedStr (v1 :: v2 :: rest) pos) (fun σ H Q => tJs ts Str.empty σ H fun out H1 => Q (.str out) H1)) : PE X (.JoinedStr (v1 :: v2 :: rest) pos) (tJn ts) := h
def XJ (C : Cfg) (ts : List TE) (acc : Str) (ds : DS) (M : Mem) (k : Str → Mem → Prop) : Prop :=
  ∀ F H σ, Stt C.K F H M → EnvR C.K F ds σ → Cov C F H M → ∀ Q : Str → Hp → Prop, (∀ o M' F' H', Nxt C.K F H M F' H' M' → k o M' → Q o H') → tJs ts acc σ H Q
theorem XJ.nil {C : Cfg} {ds : DS} {acc : Str} {k : Str → Mem → Prop} (h : k acc M) : XJ C [] acc ds M k := fun F H σ s e c Q g => g acc M F H (Nxt.refl s) h
theorem XJ.cons {C : Cfg} {ds : DS} {acc : Str} {k : Str → Mem → Prop} {t : TE} {ts : List TE} (h : XE C t ds M fun x M1 => ∃ y : Str, x = .str y ∧ (acc ++ y).length ≤ 16000000 ∧ XJ C ts (acc ++ y) ds M1 k) : XJ C (t :: ts) acc ds M k := fun F H σ s e c Q g =>
  h F H σ s e c _ fun x M1 v F1 H1 n1 r1 h1 => by
    obtain ⟨y, rfl, hl, h2⟩ := h1
    cases r1
    exact ⟨y, rfl, sz hl, h2 F1 H1 σ n1.st (e.mono n1.ex) (c.next n1) Q fun o M2 F2 H2 n2 => g o M2 F2 H2 (n1.trans n2)⟩
theorem XE.jn {C : Cfg} {ds : DS} {ts : List TE} (h : XJ C ts Str.empty ds M fun o M1 => k (.str o) M1) : XE C (tJn ts) ds M k := fun F H σ s e c Q g =>
  h F H σ s e c _ fun o M1 F1 H1 n1 h1 => g _ _ _ _ _ n1 (.str o) h1
theorem XE.fmt {C : Cfg} {ds : DS} {te : TE} (h : XE C te ds M fun x M1 => (∃ y : Str, x = .str y ∧ y.length ≤ 16000000 ∧ k (.str y) M1) ∨ ∃ i : Int, x = .int i ∧ i.natAbs.log2 < 1920 ∧ k (.str (toString i)) M1) : XE C (tFmt te) ds M k := fun F H σ s e c Q g =>
  h F H σ s e c _ fun x M1 v F1 H1 n1 r1 h1 => by
    rcases h1 with ⟨y, rfl, hl, h2⟩ | ⟨i, rfl, hl, h2⟩
    · cases r1
      exact .inl ⟨y, rfl, sz hl, g _ _ _ _ _ n1 (.str y) h2⟩
    · cases r1
      exact .inr ⟨i, rfl, hl, g _ _ _ _ _ n1 (.str _) h2⟩

/-! ### attributes -/
theorem XE.fld {C : Cfg} {ds : DS} {ta : TE} {f : Str} (h : XE C ta ds M fun x M1 => ∃ A fs d, InAt M1 x A fs ∧ Cls C.K A ∧ NoAttr C.K A f ∧ fs.lookup f = some d ∧ k d M1) : XE C (tFld C.K ta f) ds M k := fun F H σ s e c Q g =>
  h F H σ s e c _ fun x M1 v F1 H1 n1 r1 h1 => by
    obtain ⟨A, fs, d, hi, hc, hn, hl, q⟩ := h1
    obtain ⟨p, dx, gs, rfl, hp, rf⟩ := hi.get n1.st r1
    obtain ⟨w, hw, rw'⟩ := rf.lookup hl
    exact ⟨p, A, dx, gs, w, rfl, hp, hc, hn, hw, g _ _ _ _ _ n1 rw' q⟩
theorem XE.con {C : Cfg} {ds : DS} {ta : TE} {f : Str} (h : XE C ta ds M fun x M1 => ∃ A fs v u d, InAt M1 x A fs ∧ Cls C.K A ∧ Con C.K A f v u ∧ fs.lookup f = none ∧ (∀ F, Rep C.K F d v) ∧ k d M1) : XE C (tCon C.K ta f) ds M k := fun F H σ s e c Q g =>
  h F H σ s e c _ fun x M1 v F1 H1 n1 r1 h1 => by
    obtain ⟨A, fs, w, u, d, hi, hc, hn, hl, hr, q⟩ := h1
    obtain ⟨p, dx, gs, rfl, hp, rf⟩ := hi.get n1.st r1
    exact ⟨p, A, dx, gs, w, u, rfl, hp, hc, hn, rf.lookupN hl, g _ _ _ _ _ n1 (hr _) q⟩
/-! ### methods of built-in types -/
theorem XE.bm {C : Cfg} {ds : DS} {T : String} {r : V → List V → Hp → VK → Prop} {to : TE} {t : TA} (h : XE C to ds M fun x M1 => (∀ F H v, Stt C.K F H M1 → Rep C.K F x v → tyV C.K T v H) ∧ XA C t ds M1 fun xs M2 => XM C.K r x xs M2 k) : XE C (tBM C.K T r to t) ds M k := fun F H σ s e c Q g =>
  h F H σ s e c _ fun x M1 v F1 H1 n1 r1 h1 => ⟨h1.1 F1 H1 v n1.st r1, h1.2 F1 H1 σ n1.st (e.mono n1.ex) (c.next n1) _ fun xs M2 vs F2 H2 n2 r2 h2 => h2 F2 H2 v vs n2.st (r1.mono n2.ex) r2 Q ((g.next n1).next n2)⟩
theorem XE.bm0 {C : Cfg} {ds : DS} {T : String} {r : V → List V → Hp → VK → Prop} {to : TE} (h : XE C to ds M fun x M1 => (∀ F H v, Stt C.K F H M1 → Rep C.K F x v → tyV C.K T v H) ∧ XM C.K r x [] M1 k) : XE C (tBM0 C.K T r to) ds M k := fun F H σ s e c Q g =>
  h F H σ s e c _ fun x M1 v F1 H1 n1 r1 h1 => ⟨h1.1 F1 H1 v n1.st r1, h1.2 F1 H1 v [] n1.st r1 .nil Q (g.next n1)⟩
end
end DL

namespace DL
open PySem L2 PyProof.Rows

section
variable {C : Cfg} {ds : DS} {M : Mem} {k : D → Mem → Prop} {te ta tb tc : TE} {P : Post} {t u : TS}
/-! ### statements -/
theorem XS.next (h : P.nx ds M) : XS C tNext ds M P := fun F H σ s e c D f => f.nx ds M σ F H (Nxt.refl s) e h
theorem XS.brk (h : P.bk ds M) : XS C tBreak ds M P := fun F H σ s e c D f => f.bk ds M σ F H (Nxt.refl s) e h
theorem XS.cnt (h : P.ct ds M) : XS C tCont ds M P := fun F H σ s e c D f => f.ct ds M σ F H (Nxt.refl s) e h
theorem XS.seq (h : XS C t ds M { P with nx := fun ds' M' => XS C u ds' M' P }) : XS C (tSeq t u) ds M P := fun F H σ s e c D f =>
  h F H σ s e c { D with nx := u D } ⟨fun ds' M' σ' F' H' n e' q => q F' H' σ' n.st e' (c.next n) D (f.next n), f.rt, f.bk, f.ct⟩
theorem XS.drop (h : XE C te ds M fun _ M1 => P.nx ds M1) : XS C (tDrop te) ds M P := fun F H σ s e c D f =>
  h F H σ s e c _ fun x M1 v F1 H1 n1 r1 h1 => f.nx _ _ _ _ _ n1 (e.mono n1.ex) h1
theorem XS.ret (h : XE C te ds M P.rt) : XS C (tRet te) ds M P := fun F H σ s e c D f => h F H σ s e c _ f.rt
theorem XS.retN (h : P.rt .non M) : XS C tRetN ds M P := fun F H σ s e c D f => f.rt.now s .non h
theorem XS.ifs {tt : TT} (h : XT C tt ds M fun b M1 => (b = true → XS C t ds M1 P) ∧ (b = false → XS C u ds M1 P)) : XS C (tIfS tt t u) ds M P := fun F H σ s e c D f =>
  h F H σ s e c _ fun b M1 F1 H1 n1 h1 => by
    cases b with
    | true => exact h1.1 rfl F1 H1 σ n1.st (e.mono n1.ex) (c.next n1) D (f.next n1)
    | false => exact h1.2 rfl F1 H1 σ n1.st (e.mono n1.ex) (c.next n1) D (f.next n1)
/-- a target: js, the slots that it may set -/
def XG (C : Cfg) (g : TG) (x : D) (ds : DS) (M : Mem) (js : List Nat) (k : DS → Mem → Prop) : Prop :=
  ∀ F H σ v, Stt C.K F H M → EnvR C.K F ds σ → Cov C F H M → Rep C.K F x v → ∀ Q : L2.St → Hp → Prop, (∀ d M' σ' F' H', Nxt C.K F H M F' H' M' → EnvR C.K F' d σ' → σ'.length = σ.length → (∀ i, i ∉ js → σ'[i]? = σ[i]?) → k d M' → Q σ' H') → g v σ H Q
theorem XG.name {i : Nat} {x : D} {js : List Nat} {k : DS → Mem → Prop} (hi : i ∈ js) (h : k (ds.set i (some x)) M) : XG C (gName i) x ds M js k := fun F H σ v s e c r Q g =>
  g _ M _ F H (Nxt.refl s) (e.set i r) (List.length_set ..) (fun j hj => List.getElem?_set_ne fun (z : i = j) => hj (by rw [← z]; exact hi)) h
def XGs (C : Cfg) (g : TGs) (xs : List D) (ds : DS) (M : Mem) (js : List Nat) (k : DS → Mem → Prop) : Prop :=
  ∀ F H σ vs, Stt C.K F H M → EnvR C.K F ds σ → Cov C F H M → Reps C.K F xs vs → ∀ Q : L2.St → Hp → Prop, (∀ d M' σ' F' H', Nxt C.K F H M F' H' M' → EnvR C.K F' d σ' → σ'.length = σ.length → (∀ i, i ∉ js → σ'[i]? = σ[i]?) → k d M' → Q σ' H') → g vs σ H Q
theorem XGs.nil {js : List Nat} {k : DS → Mem → Prop} (h : k ds M) : XGs C gNil [] ds M js k := fun F H σ vs s e c r Q g => by
  cases r
  exact ⟨rfl, g ds M σ F H (Nxt.refl s) e rfl (fun _ _ => rfl) h⟩
theorem XGs.cons {g1 : TG} {g2 : TGs} {x : D} {xs : List D} {js : List Nat} {k : DS → Mem → Prop} (h : XG C g1 x ds M js fun ds1 M1 => XGs C g2 xs ds1 M1 js k) : XGs C (gCons g1 g2) (x :: xs) ds M js k := fun F H σ vs s e c r Q g => by
  cases r with
  | @cons _ v _ vs r1 r2 =>
    refine ⟨v, vs, rfl, h F H σ v s e c r1 _ fun d M1 σ1 F1 H1 n1 e1 l1 w1 h1 => h1 F1 H1 σ1 vs n1.st e1 (c.next n1) (r2.mono n1.ex) Q fun d2 M2 σ2 F2 H2 n2 e2 l2 w2 h2 => ?_⟩
    exact g d2 M2 σ2 F2 H2 (n1.trans n2) e2 (l2.trans l1) (fun i hi => (w2 i hi).trans (w1 i hi)) h2
theorem XG.tup {g : TGs} {n : Nat} {xs : List D} {js : List Nat} {k : DS → Mem → Prop} (hn : xs.length = n) (h : XGs C g xs ds M js k) : XG C (gTup C.K n g) (.tup xs) ds M js k := fun F H σ v s e c r Q q => by
  cases r with
  | @tup a vs _ h1 q1 => exact ⟨a, vs, rfl, ex_t s.ex h1, by rw [← q1.length]; exact hn, h F H σ vs s e c q1 Q q⟩
theorem XS.asgG {g : TG} (js : List Nat) (h : XE C te ds M fun x M1 => XG C g x ds M1 js P.nx) : XS C (tAsg te g) ds M P := fun F H σ s e c D f =>
  h F H σ s e c _ fun x M1 v F1 H1 n1 r1 h1 => h1 F1 H1 σ v n1.st (e.mono n1.ex) (c.next n1) r1 _ fun d M2 σ2 F2 H2 n2 e2 _ _ h2 => f.nx _ _ _ _ _ (n1.trans n2) e2 h2
theorem XS.asg {i : Nat} (h : XE C te ds M fun x M1 => P.nx (ds.set i (some x)) M1) : XS C (tAsg te (gName i)) ds M P := fun F H σ s e c D f =>
  h F H σ s e c _ fun x M1 v F1 H1 n1 r1 h1 => f.nx _ _ _ _ _ n1 ((e.mono n1.ex).set i r1) h1
theorem XS.par {i j : Nat} {t : TA} (h : XA C t ds M fun xs M1 => ∃ x y, xs = [x, y] ∧ P.nx ((ds.set i (some x)).set j (some y)) M1) : XS C (tPar i j t) ds M P := fun F H σ s e c D f =>
  h F H σ s e c _ fun xs M1 vs F1 H1 n1 r1 h1 => by
    obtain ⟨x, y, rfl, q⟩ := h1
    cases r1 with
    | @cons _ v _ _ r1 r2 =>
      cases r2 with
      | @cons _ w _ _ r2 r3 =>
        cases r3
        exact ⟨v, w, rfl, f.nx _ _ _ _ _ n1 (((e.mono n1.ex).set i r1).set j r2) q⟩
theorem XS.aug {i : Nat} {fn : Int → Int → Int} {a : Int} (hx : ds[i]? = some (some (.int a))) (h : XE C te ds M fun y M1 => ∃ b, y = .int b ∧ P.nx (ds.set i (some (.int (fn a b)))) M1) : XS C (tAug i te (ipI fn)) ds M P := fun F H σ s e c D f => by
  obtain ⟨v, h1, h2⟩ := e.2 i _ hx
  cases h2
  refine ⟨_, h1, h F H σ s e c _ fun y M1 v F1 H1 n1 r1 h3 => ?_⟩
  obtain ⟨b, rfl, q⟩ := h3
  cases r1
  exact ⟨a, b, rfl, rfl, f.nx _ _ _ _ _ n1 ((e.mono n1.ex).set i (.int _)) q⟩
/-- the owned list in a slot stands still from now on -/
theorem XS.fz {p : Addr} {xs : List D} {M' : Mem} (i : Nat) (hi : ds[i]? = some (some (.raw p))) (hd : Del M p (.lst xs) M') (h : XS C t (ds.set i (some (.lst xs))) M' P) : XS C t ds M P := fun F H σ s e c D f => by
  obtain ⟨F', n, r⟩ := frz_lst s hd
  refine h F' H σ n.st ⟨by rw [List.length_set]; exact e.1, fun j d q => ?_⟩ (c.next n) D (f.next n)
  by_cases z : i = j
  · subst z
    have hl : i < ds.length := (List.getElem?_eq_some_iff.mp hi).1
    rw [List.getElem?_set_self hl] at q
    cases q
    obtain ⟨v, h1, h2⟩ := e.2 i _ hi
    cases h2
    exact ⟨_, h1, r⟩
  · rw [List.getElem?_set_ne z] at q
    exact (e.mono n.ex).2 j d q
/-- .. and an owned instance -/
theorem XS.fzI {p A : Addr} {fs : List (Str × D)} {M' : Mem} (i : Nat) (hi : ds[i]? = some (some (.raw p))) (hd : Del M p (.ins A fs) M') (h : XS C t (ds.set i (some (.ins A fs))) M' P) : XS C t ds M P := fun F H σ s e c D f => by
  obtain ⟨F', n, r⟩ := frz_ins s hd
  refine h F' H σ n.st ⟨by rw [List.length_set]; exact e.1, fun j d q => ?_⟩ (c.next n) D (f.next n)
  by_cases z : i = j
  · subst z
    have hl : i < ds.length := (List.getElem?_eq_some_iff.mp hi).1
    rw [List.getElem?_set_self hl] at q
    cases q
    obtain ⟨v, h1, h2⟩ := e.2 i _ hi
    cases h2
    exact ⟨_, h1, r⟩
  · rw [List.getElem?_set_ne z] at q
    exact (e.mono n.ex).2 j d q
/-- what is read in a slot, an owned list, stands still from now on (the slot's own word stays) -/
theorem XE.varF {i : Nat} {p : Addr} {xs : List D} {M' : Mem} (hi : ds[i]? = some (some (.raw p))) (hd : Del M p (.lst xs) M') (h : k (.lst xs) M') : XE C (tVar i) ds M k := fun F H σ s e c Q g => by
  obtain ⟨F', n, r⟩ := frz_lst s hd
  obtain ⟨v, h1, h2⟩ := e.2 i _ hi
  cases h2
  exact ⟨_, h1, g _ _ _ _ _ n r h⟩
theorem XE.varFI {i : Nat} {p A : Addr} {fs : List (Str × D)} {M' : Mem} (hi : ds[i]? = some (some (.raw p))) (hd : Del M p (.ins A fs) M') (h : k (.ins A fs) M') : XE C (tVar i) ds M k := fun F H σ s e c Q g => by
  obtain ⟨F', n, r⟩ := frz_ins s hd
  obtain ⟨v, h1, h2⟩ := e.2 i _ hi
  cases h2
  exact ⟨_, h1, g _ _ _ _ _ n r h⟩
/-- self.f = e -/
theorem RepF.put {K : PySem.W.Frag} {F : Hp} {f : Str} {d : D} {v : V} (r : Rep K F d v) : ∀ {fs : List (Str × D)} {gs : List (Str × V)}, RepF K F fs gs → RepF K F (putD f d fs) (putF f v gs)
  | _, _, .nil => .cons r .nil
  | (n, d0) :: fs, (_, v0) :: gs, .cons h q => by
    show RepF K F (if n = f then (n, d) :: fs else (n, d0) :: putD f d fs) (if n = f then (n, v) :: gs else (n, v0) :: putF f v gs)
    by_cases z : n = f
    · rw [if_pos z, if_pos z]
      exact .cons r q
    · rw [if_neg z, if_neg z]
      exact .cons h (RepF.put r q)
theorem XS.fld {f : Str} (h : XE C te ds M fun y M1 => XE C ta ds M1 fun x M2 => ∃ p A fs M3, x = .raw p ∧ Up M2 p (.ins A fs) (.ins A (putD f y fs)) M3 ∧ Cls C.K A ∧ NoAttr C.K A f ∧ fs.length < 1000 ∧ P.nx ds M3) : XS C (sFld C.K ta te f) ds M P := fun F H σ s e c D g =>
  h F H σ s e c _ fun y M1 v F1 H1 n1 r1 h1 => h1 F1 H1 σ n1.st (e.mono n1.ex) (c.next n1) _ fun x M2 w F2 H2 n2 r2 h2 => by
    obtain ⟨p, A, fs, M3, rfl, hu, hc, hn, hl, q⟩ := h2
    cases r2
    obtain ⟨_, o, hp, dx, gs, rfl, rf⟩ := n2.st.at hu.at
    have n3 := Nxt.put n2.st (o := .ins A dx (putF f v gs)) hu ⟨dx, _, rfl, rf.put (r1.mono n2.ex)⟩
    exact ⟨p, A, dx, gs, rfl, hp, hc, hn, by rw [← rf.length]; exact hl, g.nx _ _ _ _ _ ((n1.trans n2).trans n3) (e.mono ((n1.trans n2).trans n3).ex) q⟩

/-! ### methods of lists -/
variable {K : PySem.W.Frag}
theorem ty_lst {x : D} {xs : List D} (h : LsAt M x xs) : ∀ F H v, Stt K F H M → Rep K F x v → tyV K "list" v H := fun F H v s r => by
  obtain ⟨p, vs, rfl, h1, _⟩ := h.get s r
  exact .inl ⟨rfl, vs, SqL.of h1⟩
theorem ty_dct {x : D} {es : List (Key × D)} (h : DcAt M x es) : ∀ F H v, Stt K F H M → Rep K F x v → tyV K "dict" v H := fun F H v s r => by
  obtain ⟨p, vs, rfl, h1, _⟩ := h.get s r
  exact .inr (.inr (.inl ⟨rfl, .inl ⟨vs, h1⟩⟩))
theorem ty_str {z : Str} : ∀ F H v, Stt K F H M → Rep K F (.str z) v → tyV K "str" v H := fun F H v s r => by
  cases r
  rfl
theorem XM.append {p : Addr} {xs : List D} {y : D} {M' : Mem} (hu : Up M p (.lst xs) (.lst (xs ++ [y])) M') (hl : xs.length < 16000000) (h : k .non M') : XM K rAppend (.raw p) [y] M k := fun F H v vs s r1 r2 Q g => by
  cases r1
  cases r2 with
  | @cons _ w _ _ r2 r3 =>
    cases r3
    obtain ⟨_, o, hp, us, rfl, q⟩ := s.at hu.at
    have n := Nxt.put s (o := .lst (us ++ [w])) hu ⟨_, rfl, q.append (.cons r2 .nil)⟩
    exact ⟨p, us, w, rfl, rfl, hp, by rw [← q.length]; exact sz1 hl, g _ _ _ _ _ n .non h⟩
def rInsert : V → List V → Hp → VK → Prop := fun x vs H Q => ∃ (l : Addr) (xs : List V) (i : Int) (y : V), x = .ref l ∧ vs = [.int i, y] ∧ H l = some (.lst xs) ∧ xs.length < sizeLine ∧ 0 ≤ i ∧ i < 2 ^ 63 ∧ Q .non (upd H l (.lst (xs.take i.toNat ++ [y] ++ xs.drop i.toNat)))
theorem mt_ins {X : Cx} : MtR X "list.insert" rInsert := mt_insert
theorem XM.insert {p : Addr} {xs : List D} {y : D} {i : Int} {M' : Mem} (hu : Up M p (.lst xs) (.lst (xs.take i.toNat ++ [y] ++ xs.drop i.toNat)) M') (hl : xs.length < 16000000) (h0 : 0 ≤ i) (h1 : i < 2 ^ 63) (h : k .non M') : XM K rInsert (.raw p) [.int i, y] M k := fun F H v vs s r1 r2 Q g => by
  cases r1
  cases r2 with
  | cons r2 r3 =>
    cases r2
    cases r3 with
    | @cons _ w _ _ r3 r4 =>
      cases r4
      obtain ⟨_, o, hp, us, rfl, q⟩ := s.at hu.at
      have n := Nxt.put s (o := .lst (us.take i.toNat ++ [w] ++ us.drop i.toNat)) hu ⟨_, rfl, ((q.take _).append (.cons r3 .nil)).append (q.drop _)⟩
      exact ⟨p, us, i, w, rfl, rfl, hp, by rw [← q.length]; exact sz1 hl, h0, h1, g _ _ _ _ _ n .non h⟩
theorem XM.popAt {p : Addr} {xs : List D} {y : D} {i : Int} {j : Nat} {M' : Mem} (hu : Up M p (.lst xs) (.lst (xs.eraseIdx j)) M') (h0 : -(2 ^ 63) ≤ i) (h1 : i < 2 ^ 63) (hj : seqIndex? i xs.length = some j) (hy : xs[j]? = some y) (h : k y M') : XM K rPopAt (.raw p) [.int i] M k := fun F H v vs s r1 r2 Q g => by
  cases r1
  cases r2 with
  | cons r2 r3 =>
    cases r2
    cases r3
    obtain ⟨_, o, hp, us, rfl, q⟩ := s.at hu.at
    obtain ⟨w, hw, rw'⟩ := q.get hy
    have n := Nxt.put s (o := .lst (us.eraseIdx j)) hu ⟨_, rfl, q.eraseIdx _⟩
    exact ⟨p, us, i, j, w, rfl, rfl, hp, h0, h1, by rw [← q.length]; exact hj, hw, g _ _ _ _ _ n (rw'.mono n.ex) h⟩
theorem Reps.dropLast {F : Hp} {xs : List D} {vs : List V} (r : Reps K F xs vs) : Reps K F xs.dropLast vs.dropLast := by
  rw [List.dropLast_eq_take, List.dropLast_eq_take, r.length]
  exact r.take _
theorem XM.pop {p : Addr} {xs : List D} {y : D} {M' : Mem} (hu : Up M p (.lst xs) (.lst xs.dropLast) M') (hy : xs[xs.length - 1]? = some y) (h : k y M') : XM K rPop (.raw p) [] M k := fun F H v vs s r1 r2 Q g => by
  cases r1
  cases r2
  obtain ⟨_, o, hp, us, rfl, q⟩ := s.at hu.at
  obtain ⟨w, hw, rw'⟩ := q.get hy
  have n := Nxt.put s (o := .lst us.dropLast) hu ⟨_, rfl, q.dropLast⟩
  exact ⟨p, us, w, rfl, rfl, hp, by rw [← q.length]; exact hw, g _ _ _ _ _ n (rw'.mono n.ex) h⟩

/-! ### what is walked -/
/-- J walks the items xs, in any later state -/
def Items (K : PySem.W.Frag) (F0 : Hp) (J : It) (xs : List D) : Prop :=
  ∀ i F H M, Ex F0 F → Stt K F H M → (∀ x, xs[i]? = some x → J.go i H ∧ ∀ v H2, J.yld i H v H2 → ∃ F2, Nxt K F H M F2 H2 M ∧ Rep K F2 x v) ∧ (xs.length ≤ i → J.stop i H)
def XI (C : Cfg) (wi : TI) (ds : DS) (M : Mem) (k : List D → Mem → Prop) : Prop :=
  ∀ F H σ, Stt C.K F H M → EnvR C.K F ds σ → Cov C F H M → ∀ R : It → Hp → Prop, (∀ xs M' J F' H', Nxt C.K F H M F' H' M' → Items C.K F' J xs → k xs M' → R J H') → wi σ H R
theorem items_lst {F0 : Hp} {a : Addr} {xs : List D} {vs : List V} (h : SqL K F0 a vs) (r : Reps K F0 xs vs) : Items K F0 (Itl K a) xs := fun i F H M e s => by
  have hq : SqL K H a vs := ex_l (e.trans s.ex) h
  refine ⟨fun x hx => ?_, fun hl => ⟨vs, hq, by rw [← r.length]; exact hl⟩⟩
  obtain ⟨v, hv, rv⟩ := r.get hx
  refine ⟨⟨vs, v, hq, hv⟩, fun w H2 y => ?_⟩
  obtain ⟨rfl, y⟩ := y
  have e2 := y vs hq
  rw [hv] at e2
  cases e2
  exact ⟨F, Nxt.refl s, rv.mono e⟩
theorem items_tup {F0 : Hp} {a : Addr} {xs : List D} {vs : List V} (h : SqT K F0 a vs) (r : Reps K F0 xs vs) : Items K F0 (Itt K a) xs := fun i F H M e s => by
  have hq : SqT K H a vs := ex_t (e.trans s.ex) h
  refine ⟨fun x hx => ?_, fun hl => ⟨vs, hq, by rw [← r.length]; exact hl⟩⟩
  obtain ⟨v, hv, rv⟩ := r.get hx
  refine ⟨⟨vs, v, hq, hv⟩, fun w H2 y => ?_⟩
  obtain ⟨rfl, y⟩ := y
  have e2 := y vs hq
  rw [hv] at e2
  cases e2
  exact ⟨F, Nxt.refl s, rv.mono e⟩
def rngD (lo : Int) (n : Nat) : List D := (List.range n).map fun i => D.int (lo + (i : Nat))
theorem rngD_len (lo : Int) (n : Nat) : (rngD lo n).length = n := by simp [rngD]
theorem rngD_get (lo : Int) (n i : Nat) : (rngD lo n)[i]? = if i < n then some (.int (lo + (i : Nat))) else none := by
  unfold rngD
  rw [List.getElem?_map]
  by_cases h : i < n
  · rw [if_pos h, List.getElem?_range h]
    rfl
  · rw [if_neg h, List.getElem?_eq_none (by simpa using h)]
    rfl
theorem items_rng {F0 : Hp} (lo : Int) (n : Nat) : Items K F0 (Itr lo n) (rngD lo n) := fun i F H M e s => by
  refine ⟨fun x hx => ?_, fun hl => by rw [rngD_len] at hl; exact hl⟩
  rw [rngD_get] at hx
  split at hx
  · cases hx
    refine ⟨by assumption, fun w H2 y => ?_⟩
    obtain ⟨rfl, rfl⟩ := y
    exact ⟨F, Nxt.refl s, .int _⟩
  · cases hx
variable {kl : List D → Mem → Prop}
theorem XI.lst {tl : TE} (h : XE C tl ds M fun x M1 => ∃ xs, (x = .lst xs ∨ x = .ro xs) ∧ kl xs M1) : XI C (iList C.K tl) ds M kl := fun F H σ s e c R g =>
  h F H σ s e c _ fun x M1 v F1 H1 n1 r1 h1 => by
    obtain ⟨xs, rfl | rfl, q⟩ := h1
    · cases r1 with
      | @lst a vs _ h2 q2 => exact ⟨a, rfl, ⟨vs, SqL.of (n1.st.ex _ _ h2)⟩, g xs M1 _ F1 H1 n1 (items_lst (SqL.of h2) q2) q⟩
    · cases r1 with
      | @ro a vs _ h2 q2 => exact ⟨a, rfl, ⟨vs, ex_l n1.st.ex h2⟩, g xs M1 _ F1 H1 n1 (items_lst h2 q2) q⟩
theorem XI.tup {tl : TE} (h : XE C tl ds M fun x M1 => ∃ xs, x = .tup xs ∧ kl xs M1) : XI C (iTup C.K tl) ds M kl := fun F H σ s e c R g =>
  h F H σ s e c _ fun x M1 v F1 H1 n1 r1 h1 => by
    obtain ⟨xs, rfl, q⟩ := h1
    cases r1 with
    | @tup a vs _ h2 q2 => exact ⟨a, rfl, ⟨vs, ex_t n1.st.ex h2⟩, g xs M1 _ F1 H1 n1 (items_tup h2 q2) q⟩
theorem XI.rng1 {t : TA} (h : XA C t ds M fun xs M1 => ∃ j : Int, xs = [.int j] ∧ -(2 ^ 62) ≤ j ∧ j < 2 ^ 62 ∧ kl (rngD 0 j.toNat) M1) : XI C (iRng1 t) ds M kl := fun F H σ s e c R g =>
  h F H σ s e c _ fun xs M1 vs F1 H1 n1 r1 h1 => by
    obtain ⟨j, rfl, h2, h3, q⟩ := h1
    cases r1 with
    | cons r1 r2 =>
      cases r2
      cases r1
      exact ⟨j, rfl, h2, h3, g _ M1 _ F1 H1 n1 (items_rng 0 _) q⟩
theorem XI.rng2 {t : TA} (h : XA C t ds M fun xs M1 => ∃ i j : Int, xs = [.int i, .int j] ∧ (-(2 ^ 62) ≤ i ∧ i < 2 ^ 62 ∧ -(2 ^ 62) ≤ j ∧ j < 2 ^ 62) ∧ kl (rngD i (j - i).toNat) M1) : XI C (iRng2 t) ds M kl := fun F H σ s e c R g =>
  h F H σ s e c _ fun xs M1 vs F1 H1 n1 r1 h1 => by
    obtain ⟨i, j, rfl, h2, q⟩ := h1
    cases r1 with
    | cons r1 r2 =>
      cases r2 with
      | cons r2 r3 =>
        cases r3
        cases r2
        cases r1
        exact ⟨i, j, rfl, h2, g _ M1 _ F1 H1 n1 (items_rng i _) q⟩

/-! ### for -/
theorem XS.for {wi : TI} {g : TG} {tb : TS} (js : List Nat) (h : XI C wi ds M fun xs M1 => ∃ I : Nat → DS → Mem → Prop, I 0 ds M1 ∧
    (∀ i x ds' M', xs[i]? = some x → I i ds' M' → XG C g x ds' M' js fun ds2 M2 => XS C tb ds2 M2 { P with nx := I (i + 1), ct := I (i + 1), bk := P.nx }) ∧
    ∀ ds' M', I xs.length ds' M' → P.nx ds' M') : XS C (tFor wi g tb) ds M P := fun F H σ s e c D f =>
  h F H σ s e c _ fun xs M1 J F1 H1 n1 it h1 => by
    obtain ⟨I, h0, hs, hd⟩ := h1
    refine ⟨fun i m σ' H' => m + i = xs.length ∧ i ≤ xs.length ∧ ∃ ds' M' F', Nxt C.K F H M F' H' M' ∧ Ex F1 F' ∧ EnvR C.K F' ds' σ' ∧ I i ds' M', ⟨xs.length, rfl, Nat.zero_le _, ds, M1, F1, n1, Ex.refl _, e.mono n1.ex, h0⟩, fun i m σ' H' w => ?_⟩
    obtain ⟨hm, hi, ds', M', F', n, ex, e', hI⟩ := w
    by_cases hlt : i < xs.length
    · have hx : xs[i]? = some xs[i] := List.getElem?_eq_getElem hlt
      obtain ⟨go, yl⟩ := (it i F' H' M' ex n.st).1 _ hx
      refine .inr ⟨go, fun σ2 H2 => ∃ ds2 M2 F2, Nxt C.K F H M F2 H2 M2 ∧ Ex F1 F2 ∧ EnvR C.K F2 ds2 σ2 ∧ I (i + 1) ds2 M2, fun σ2 H2 w => ⟨m - 1, by omega, by omega, hlt, w⟩, fun v H2 y => ?_⟩
      obtain ⟨F2, n2, r2⟩ := yl v H2 y
      refine hs i _ ds' M' hx hI F2 H2 σ' v n2.st (e'.mono n2.ex) (c.next (n.trans n2)) r2 _ fun ds3 M3 σ3 F3 H3 n3 e3 _ _ h3 => ?_
      have n123 := (n.trans n2).trans n3
      have ex3 : Ex F1 F3 := (ex.trans n2.ex).trans n3.ex
      refine h3 F3 H3 σ3 n3.st e3 (c.next n123) _ ⟨fun ds4 M4 σ4 F4 H4 n4 e4 h4 => ⟨ds4, M4, F4, n123.trans n4, ex3.trans n4.ex, e4, h4⟩, f.rt.next n123, fun ds4 M4 σ4 F4 H4 n4 e4 h4 => f.nx _ _ _ _ _ (n123.trans n4) e4 h4, fun ds4 M4 σ4 F4 H4 n4 e4 h4 => ⟨ds4, M4, F4, n123.trans n4, ex3.trans n4.ex, e4, h4⟩⟩
    · have hi' : i = xs.length := by omega
      subst hi'
      exact .inl ⟨(it _ F' H' M' ex n.st).2 (Nat.le_refl _), f.nx _ _ _ _ _ n e' (hd _ _ hI)⟩
/-! ### while -/
theorem XS.while {tt : TT} {tb : TS} (I : Nat → DS → Mem → Prop) (m0 : Nat) (h0 : I m0 ds M)
    (hs : ∀ m ds' M', I m ds' M' → XT C tt ds' M' fun b M1 => (b = true → XS C tb ds' M1 { P with nx := fun ds2 M2 => ∃ m', m' < m ∧ I m' ds2 M2, ct := fun ds2 M2 => ∃ m', m' < m ∧ I m' ds2 M2, bk := P.nx }) ∧ (b = false → P.nx ds' M1)) : XS C (tWhile tt tb) ds M P := fun F H σ s e c D f => by
  refine ⟨fun m σ' H' => ∃ ds' M' F', Nxt C.K F H M F' H' M' ∧ EnvR C.K F' ds' σ' ∧ I m ds' M', ⟨m0, ds, M, F, Nxt.refl s, e, h0⟩, fun m σ' H' w => ?_⟩
  obtain ⟨ds', M', F', n, e', hI⟩ := w
  refine hs m ds' M' hI F' H' σ' n.st e' (c.next n) _ fun b M1 F1 H1 n1 h1 => ?_
  have n2 := n.trans n1
  cases b with
  | true =>
    refine ⟨fun σ2 H2 => ∃ m', m' < m ∧ ∃ ds2 M2 F2, Nxt C.K F H M F2 H2 M2 ∧ EnvR C.K F2 ds2 σ2 ∧ I m' ds2 M2, fun σ2 H2 w => w, ?_⟩
    refine h1.1 rfl F1 H1 σ' n1.st (e'.mono n1.ex) (c.next n2) _ ⟨fun ds4 M4 σ4 F4 H4 n4 e4 h4 => ?_, f.rt.next n2, fun ds4 M4 σ4 F4 H4 n4 e4 h4 => f.nx _ _ _ _ _ (n2.trans n4) e4 h4, fun ds4 M4 σ4 F4 H4 n4 e4 h4 => ?_⟩
    · obtain ⟨m', hm, hI'⟩ := h4
      exact ⟨m', hm, ds4, M4, F4, n2.trans n4, e4, hI'⟩
    · obtain ⟨m', hm, hI'⟩ := h4
      exact ⟨m', hm, ds4, M4, F4, n2.trans n4, e4, hI'⟩
  | false => exact f.nx _ _ _ _ _ n2 (e'.mono n1.ex) (h1.2 rfl)

/-! ### comprehensions -/
theorem wipe_get (σ : L2.St) : ∀ (vs : List Nat) (i : Nat), (L2.wipe σ vs)[i]? = if i ∈ vs then (if i < σ.length then some none else none) else σ[i]?
  | [], i => by simp [L2.wipe]
  | v :: vs, i => by
    show ((L2.wipe σ vs).set v none)[i]? = _
    by_cases h : v = i
    · subst h
      rw [if_pos List.mem_cons_self]
      by_cases hl : v < σ.length
      · rw [if_pos hl, List.getElem?_set_self (by rw [L2.wipe_length]; exact hl)]
      · rw [if_neg hl, List.getElem?_eq_none (by rw [List.length_set, L2.wipe_length]; omega)]
    · rw [List.getElem?_set_ne h, wipe_get σ vs i]
      by_cases hm : i ∈ vs
      · rw [if_pos hm, if_pos (List.mem_cons_of_mem _ hm)]
      · rw [if_neg hm, if_neg fun z => (List.mem_cons.mp z).elim (fun e => h e.symm) hm]
theorem wipe_same {σ σ' : L2.St} {vs : List Nat} (hl : σ'.length = (L2.wipe σ vs).length) (h : ∀ i, i ∉ vs → σ'[i]? = (L2.wipe σ vs)[i]?) : L2.wipe σ' vs = L2.wipe σ vs := by
  have hl' : σ'.length = σ.length := by rw [hl, L2.wipe_length]
  refine List.ext_getElem? fun i => ?_
  rw [wipe_get, wipe_get, hl']
  by_cases hm : i ∈ vs
  · rw [if_pos hm, if_pos hm]
  · rw [if_neg hm, if_neg hm, h i hm, wipe_get, if_neg hm]
/-- within a comprehension nothing is let out -/
abbrev Cfg.nox (C : Cfg) : Cfg := ⟨C.K, fun _ _ _ _ => False, fun _ _ _ _ => False⟩
theorem Cov.nox {C : Cfg} {F H : Hp} {M : Mem} : Cov C.nox F H M := fun _ _ _ _ _ _ _ _ _ _ h _ => h.elim
theorem XE.lcG {wi : TI} {g : TG} {tt : TT} {vs : List Nat} (own : Bool) (h : XI C wi ds M fun xs M1 => ∃ I : Nat → List D → Mem → Prop, I 0 [] M1 ∧
    (∀ i x acc M', xs[i]? = some x → I i acc M' → XG C.nox g x (dwipe ds vs) M' vs fun ds2 M2 => XT C.nox tt ds2 M2 fun b M3 => (b = true → XE C.nox te ds2 M3 fun y M4 => acc.length < 16000000 ∧ I (i + 1) (acc ++ [y]) M4) ∧ (b = false → I (i + 1) acc M3)) ∧
    ∀ acc M', I xs.length acc M' → if own = true then ∀ p, p ∉ dom M' → k (.raw p) ((p, .lst acc) :: M') else k (.lst acc) M') : XE C (tLc wi g tt te vs) ds M k := fun F H σ s e c Q gq =>
  h F H σ s e c _ fun xs M1 J F1 H1 n1 it h1 => by
    obtain ⟨I, h0, hs, hd⟩ := h1
    intro L hL
    have nL := Nxt.newM n1.st (o := .lst []) (m := .lst []) hL ⟨[], rfl, .nil⟩
    refine ⟨fun i m H' => m + i = xs.length ∧ i ≤ xs.length ∧ ∃ acc M' F', Nxt C.K F H M F' H' ((L, .lst acc) :: M') ∧ Ex F1 F' ∧ I i acc M', ⟨xs.length, rfl, Nat.zero_le _, [], M1, F1, n1.trans nL, Ex.refl _, h0⟩, fun i m H' w => ?_⟩
    obtain ⟨hm, hi, acc, M', F', n, ex, hI⟩ := w
    have sM : Stt C.K F' H' M' := (show Stt C.K F' H' ([(L, MO.lst acc)] ++ M') from n.st).part
    by_cases hlt : i < xs.length
    · have hx : xs[i]? = some xs[i] := List.getElem?_eq_getElem hlt
      obtain ⟨go, yl⟩ := (it i F' H' M' ex sM).1 _ hx
      refine .inr ⟨go, fun H2 => ∃ acc M2 F2, Nxt C.K F H M F2 H2 ((L, .lst acc) :: M2) ∧ Ex F1 F2 ∧ I (i + 1) acc M2, fun H2 w => ⟨m - 1, by omega, by omega, hlt, w⟩, fun v H2 y => ?_⟩
      obtain ⟨F2, n2, r2⟩ := yl v H2 y
      have lift : ∀ {Fb Hb : Hp} {Mb : Mem}, Nxt C.K F' H' M' Fb Hb Mb → Nxt C.K F H M Fb Hb ((L, .lst acc) :: Mb) := fun na => n.trans (Nxt.whole (Mr := [(L, MO.lst acc)]) n.st na)
      refine hs i _ acc M' hx hI F2 H2 _ v n2.st (((e.mono n.ex).mono n2.ex).wipe vs) Cov.nox r2 _ fun d3 M3 σ3 F3 H3 n3 e3 l3 w3 h3 => ?_
      have n23 := n2.trans n3
      refine ⟨wipe_same l3 w3, h3 F3 H3 σ3 n3.st e3 Cov.nox _ fun b M4 F4 H4 n4 h4 => ?_⟩
      have n24 := n23.trans n4
      cases b with
      | true =>
        show te σ3 H4 _
        refine h4.1 rfl F4 H4 σ3 n4.st (e3.mono n4.ex) Cov.nox _ fun z M5 vz F5 H5 n5 r5 h5 => ?_
        have n25 := n24.trans n5
        have N := lift n25
        obtain ⟨_, o, hp, us, rfl, q⟩ := N.st.at At.hd
        have np := Nxt.put N.st (o := .lst (us ++ [vz])) (m' := .lst (acc ++ [z])) Up.hd ⟨_, rfl, q.append (.cons r5 .nil)⟩
        exact ⟨us, hp, by rw [← q.length]; exact sz1 h5.1, acc ++ [z], M5, F5, N.trans np, ex.trans n25.ex, h5.2⟩
      | false => exact ⟨acc, M4, F4, lift n24, ex.trans n24.ex, h4.2 rfl⟩
    · have hi' : i = xs.length := by omega
      subst hi'
      refine .inl ⟨(it _ F' H' M' ex sM).2 (Nat.le_refl _), ?_⟩
      have q := hd acc M' hI
      cases own with
      | true =>
        have q' : ∀ p, p ∉ dom M' → k (.raw p) ((p, .lst acc) :: M') := q
        exact gq _ _ _ _ _ n (.raw L) (q' L (List.nodup_cons.mp n.st.nd).1)
      | false =>
        obtain ⟨F2, n2, r2⟩ := frz_lst n.st Del.hd
        exact gq _ _ _ _ _ (n.trans n2) r2 q
/-- a comprehension whose parts leave what is owned as it is -/
theorem XE.lc {wi : TI} {g : TG} {tt : TT} {vs : List Nat} (f : D → Option D) (h : XI C wi ds M fun xs M1 => xs.length ≤ 16000000 ∧
    (∀ x, x ∈ xs → XG C.nox g x (dwipe ds vs) M1 vs fun ds2 M2 => XT C.nox tt ds2 M2 fun b M3 => (b = true → XE C.nox te ds2 M3 fun y M4 => f x = some y ∧ M4 = M1) ∧ (b = false → f x = none ∧ M3 = M1)) ∧
    k (.lst (xs.filterMap f)) M1) : XE C (tLc wi g tt te vs) ds M k := XE.lcG false fun F H σ s e c R gR => h F H σ s e c R fun xs M1 J F1 H1 n1 it h1 => by
  obtain ⟨hl, hs, hk⟩ := h1
  refine gR xs M1 J F1 H1 n1 it ⟨fun i acc M' => acc = (xs.take i).filterMap f ∧ acc.length ≤ i ∧ M' = M1, ⟨by simp, Nat.zero_le _, rfl⟩, fun i x acc M' hx hI => ?_, fun acc M' hI => ?_⟩
  · obtain ⟨rfl, hal, rfl⟩ := hI
    have hi : i < xs.length := (List.getElem?_eq_some_iff.mp hx).1
    have ht : xs.take (i + 1) = xs.take i ++ [x] := by rw [List.take_add_one, hx]; rfl
    refine fun F H σ v s e c r Q g' => hs x (List.mem_of_getElem? hx) F H σ v s e c r Q fun d M2 σ2 F2 H2 n2 e2 l2 w2 h2 => g' d M2 σ2 F2 H2 n2 e2 l2 w2 fun Fa Ha σa sa ea ca Qa ga => h2 Fa Ha σa sa ea ca Qa fun b M3 F3 H3 n3 h3 => ga b M3 F3 H3 n3 ⟨fun hb => ?_, fun hb => ?_⟩
    · refine fun Fb Hb σb sb eb cb Qb gb => h3.1 hb Fb Hb σb sb eb cb Qb fun y M4 vy F4 H4 n4 r4 h4 => gb y M4 vy F4 H4 n4 r4 ⟨by omega, ?_, ?_, h4.2⟩
      · rw [ht, List.filterMap_append, List.filterMap_cons, h4.1]
        rfl
      · rw [List.length_append]
        exact Nat.add_le_add_right hal 1
    · obtain ⟨h4, h5⟩ := h3.2 hb
      refine ⟨?_, by omega, h5⟩
      rw [ht, List.filterMap_append, List.filterMap_cons, h4]
      simp
  · obtain ⟨rfl, _, rfl⟩ := hI
    show k _ _
    rw [List.take_length]
    exact hk
def PTs.one : True := trivial
theorem XT.yes {kt : Bool → Mem → Prop} (h : kt true M) : XT C (fun _ H Q => Q true H) ds M kt := fun F H σ s e c Q g => g true M F H (Nxt.refl s) h
end
end DL

namespace DL
open PySem L2 PyProof.Rows

/-! ### promises -/
abbrev DSp := List D → Mem → (D → Mem → Prop) → (Value → List (Str × D) → Mem → Prop) → Prop
def spD (K : PySem.W.Frag) (n : Nat) (sp : DSp) : Sp := fun vs H Q E => ∃ F M ds, Stt K F H M ∧ Reps K F ds vs ∧ ds.length = n ∧
  sp ds M (fun r M' => ∀ v F' H', Nxt K F H M F' H' M' → Rep K F' r v → Q v H') (fun cls fs M' => ∀ d F' H', Nxt K F H M F' H' M' → ExD K F' H' d fs → E cls d H')
/-- of a def that leaves all as it is -/
abbrev PSp := List D → (D → Prop) → (Value → List (Str × D) → Prop) → Prop
def pur (p : PSp) : DSp := fun ds M k x => M = [] ∧ p ds (fun r => k r []) (fun c fs => x c fs [])
theorem spD_len {K : PySem.W.Frag} {n : Nat} {sp : DSp} : ∀ vs H Q E, spD K n sp vs H Q E → vs.length = n := fun vs H Q E ⟨F, M, ds, s, r, hl, h⟩ => r.length.symm.trans hl
abbrev cfg (K : PySem.W.Frag) (E : XK) (x : Value → List (Str × D) → Mem → Prop) : Cfg := ⟨K, fun _ => E, fun _ => x⟩
section
variable {P : Program} {w : World} {K : PySem.W.Frag} {mg : Str → Option Value} {base : Heap}
theorem fn_ok {x qual : Str} {st : Stmt} {f : Addr} {fd : FuncData} {N ps : List Str} {k n : Nat} {sp : DSp} (F : Fun K x qual st f fd) (S : FnScope N ps (defScope st)) (hn : ps.length = n)
    (body : ∀ (cdv : Value) (A : Around) (outer : List Env) (s : Shared) (H : Hp) (E : XK), Room k (A.deeper (envOfC qual (defScope st) s.heap.objs.size f cdv)) →
      ∃ t, PSs (cxOf (L2.CX P w) P w K mg base N qual (defScope st) f cdv A outer s H E) (defBody st) t ∧
        ∀ ds M kk xx, ds.length = n → sp ds M kk xx → XS (cfg K E xx) t (dstart N ds) M { nx := fun _ M' => kk .non M', rt := kk }) :
    FnOk P w K mg base (L2.CX P w) (k + 1) f fd ps (spD K n sp) := by
  refine F.okX S (fun vs H Q E h => (spD_len vs H Q E h).trans hn.symm) fun cdv A outer s H vs Q E hr h => ?_
  obtain ⟨Fz, M, ds, st, r, hl, h⟩ := h
  obtain ⟨t, ht, hx⟩ := body cdv A outer s H E hr
  refine ⟨t, ht, hx ds M _ _ hl h Fz H _ st (EnvR.begun r) (fun ds0 σ0 cls fs M' F' H' d n _ q ex => q d F' H' n ex) _ ⟨?_, ?_, ?_, ?_⟩⟩
  · exact fun ds' M' σ' F' H' n e q => q .non F' H' n .non
  · exact fun d M' v F' H' n r q => q v F' H' n r
  · exact fun ds' M' σ' F' H' n e q => False.elim q
  · exact fun ds' M' σ' F' H' n e q => False.elim q
end

section
variable {C : Cfg} {ds : DS} {M : Mem} {k : D → Mem → Prop} {te ta tb tc : TE} {P : Post} {t : TA} {n : Nat} {sp : DSp} {p : PSp} {dvs : List V} {E : XK}
/-- the promise, for a part Mc of what is owned -/
theorem spD_use {K : PySem.W.Frag} {F H : Hp} {Mr Mc : Mem} {xs : List D} {vs : List V} {Q : VK} {E : XK} {k : D → Mem → Prop} {x : Value → List (Str × D) → Mem → Prop} (s : Stt K F H (Mr ++ Mc)) (r : Reps K F xs vs) (hl : xs.length = n)
    (h : sp xs Mc (fun r M' => k r (Mr ++ M')) (fun cls fs M' => x cls fs (Mr ++ M'))) (g : Go K F H (Mr ++ Mc) k Q) (c : ∀ cls fs M' d F' H', Nxt K F H (Mr ++ Mc) F' H' M' → x cls fs M' → ExD K F' H' d fs → E cls d H')
    (mono : ∀ (k k' : D → Mem → Prop) (x x' : Value → List (Str × D) → Mem → Prop), (∀ r M', k r M' → k' r M') → (∀ c f M', x c f M' → x' c f M') → sp xs Mc k x → sp xs Mc k' x') : spD K n sp vs H Q E :=
  ⟨F, Mc, xs, s.part, r, hl, mono _ _ _ _ (fun r M' q v F' H' n rr => g r (Mr ++ M') v F' H' (Nxt.whole s n) rr q) (fun cls fs M' q d F' H' n ex => c cls fs (Mr ++ M') d F' H' (Nxt.whole s n) q ex) h⟩
/-- a promise that may be weakened at its end -/
def MonoD (sp : DSp) : Prop := ∀ xs M (k k' : D → Mem → Prop) (x x' : Value → List (Str × D) → Mem → Prop), (∀ r M', k r M' → k' r M') → (∀ c f M', x c f M' → x' c f M') → sp xs M k x → sp xs M k' x'
def MonoP (p : PSp) : Prop := ∀ xs (k k' : D → Prop) (x x' : Value → List (Str × D) → Prop), (∀ r, k r → k' r) → (∀ c f, x c f → x' c f) → p xs k x → p xs k' x'
theorem MonoP.pur (h : MonoP p) : MonoD (pur p) := fun xs M k k' x x' hk hx ⟨e, q⟩ => ⟨e, h xs _ _ _ _ (fun r => hk r []) (fun c f => hx c f []) q⟩
theorem XE.call (m : MonoD sp) (hE : ∀ σ, C.E σ = E) {dD : List D} (hd : ∀ F, Reps C.K F dD dvs) (h : XA C t ds M fun xs M1 => ∃ Mr Mc, M1 = Mr ++ Mc ∧ (xs ++ dD).length = n ∧ sp (xs ++ dD) Mc (fun r M' => k r (Mr ++ M')) (fun cls fs M' => C.x ds cls fs (Mr ++ M'))) :
    XE C (tCall (spD C.K n sp) dvs E t) ds M k := fun F H σ s e c Q g =>
  h F H σ s e c _ fun xs M1 vs F1 H1 n1 r1 h1 => by
    obtain ⟨Mr, Mc, rfl, hl, q⟩ := h1
    exact spD_use (x := C.x ds) n1.st (r1.append (hd F1)) hl q (g.next n1) (fun cls fs M' d F' H' n2 hx ex => by
      rw [← hE σ]
      exact c ds σ cls fs M' F' H' d (n1.trans n2) (e.mono (n1.trans n2).ex) hx ex) (m _ _)
theorem XE.callP (m : MonoP p) (hE : ∀ σ, C.E σ = E) {dD : List D} (hd : ∀ F, Reps C.K F dD dvs) (h : XA C t ds M fun xs M1 => (xs ++ dD).length = n ∧ p (xs ++ dD) (fun r => k r M1) (fun cls fs => C.x ds cls fs M1)) :
    XE C (tCall (spD C.K n (pur p)) dvs E t) ds M k := XE.call m.pur hE hd fun F H σ s e c Q g => h F H σ s e c Q fun xs M1 vs F1 H1 n1 r1 h1 => g xs M1 vs F1 H1 n1 r1
      ⟨M1, [], (List.append_nil _).symm, h1.1, rfl, m _ _ _ _ _ (fun r q => by rw [← List.append_nil M1] at q; exact q) (fun c f q => by rw [← List.append_nil M1] at q; exact q) h1.2⟩
/-- o.m(..) -/
theorem XE.meth {A : Addr} {mn : Str} (m : MonoD sp) (hE : ∀ σ, C.E σ = E) {dD : List D} (hd : ∀ F, Reps C.K F dD dvs) (h : XE C ta ds M fun y M0 => ∃ fs, InAt M0 y A fs ∧ fs.lookup mn = none ∧ XA C t ds M0 fun xs M1 => ∃ Mr Mc, M1 = Mr ++ Mc ∧ (y :: (xs ++ dD)).length = n ∧ sp (y :: (xs ++ dD)) Mc (fun r M' => k r (Mr ++ M')) (fun cls fs M' => C.x ds cls fs (Mr ++ M'))) :
    XE C (tMeth A mn (spD C.K n sp) dvs E ta t) ds M k := fun F H σ s e c Q g =>
  h F H σ s e c _ fun y M0 vy F0 H0 n0 r0 h0 => by
    obtain ⟨fs, hi, hl, h0⟩ := h0
    obtain ⟨a, dx, gs, rfl, ha, rf⟩ := hi.get n0.st r0
    refine ⟨a, dx, gs, rfl, ha, rf.lookupN hl, h0 F0 H0 σ n0.st (e.mono n0.ex) (c.next n0) _ fun xs M1 vs F1 H1 n1 r1 h1 => ?_⟩
    obtain ⟨Mr, Mc, rfl, hl, q⟩ := h1
    have n01 := n0.trans n1
    exact spD_use (x := C.x ds) n1.st (.cons (r0.mono n1.ex) (r1.append (hd F1))) hl q (g.next n01) (fun cls fs M' d F' H' n2 hx ex => by
      rw [← hE σ]
      exact c ds σ cls fs M' F' H' d (n01.trans n2) (e.mono (n01.trans n2).ex) hx ex) (m _ _)
theorem XE.methP {A : Addr} {mn : Str} (m : MonoP p) (hE : ∀ σ, C.E σ = E) {dD : List D} (hd : ∀ F, Reps C.K F dD dvs) (h : XE C ta ds M fun y M0 => ∃ fs, InAt M0 y A fs ∧ fs.lookup mn = none ∧ XA C t ds M0 fun xs M1 => (y :: (xs ++ dD)).length = n ∧ p (y :: (xs ++ dD)) (fun r => k r M1) (fun cls fs => C.x ds cls fs M1)) :
    XE C (tMeth A mn (spD C.K n (pur p)) dvs E ta t) ds M k := XE.meth m.pur hE hd fun F H σ s e c Q g => h F H σ s e c Q fun y M0 vy F0 H0 n0 r0 h0 => g y M0 vy F0 H0 n0 r0 (by
      obtain ⟨fs, hi, hl, h0⟩ := h0
      exact ⟨fs, hi, hl, fun F H σ s e c Q g => h0 F H σ s e c Q fun xs M1 vs F1 H1 n1 r1 h1 => g xs M1 vs F1 H1 n1 r1
        ⟨M1, [], (List.append_nil _).symm, h1.1, rfl, m _ _ _ _ _ (fun r q => by rw [← List.append_nil M1] at q; exact q) (fun c f q => by rw [← List.append_nil M1] at q; exact q) h1.2⟩⟩)
/-- a new thing that is neither owned nor still -/
theorem Nxt.newX {K : PySem.W.Frag} {F H : Hp} {M : Mem} (s : Stt K F H M) {p : Addr} {o : HO} (h : H p = none) : Nxt K F H M F (upd H p o) M where
  st := ⟨s.ex.updM (s.free h), fun q hq => by
    obtain ⟨h1, u, h2, h3⟩ := s.mem q hq
    exact ⟨h1, u, by rw [upd_ne (ne_of_none h2 h)]; exact h2, h3⟩, s.nd⟩
  ex := Ex.refl F
  fr := fun a u e _ => by
    rw [upd_ne (ne_of_none e h)]
    exact e
  nw := fun a h1 _ _ _ => h1
  dm := fun _ m => .inl m
  tr := fun _ e => upd_some e
/-- what is owned is let go -/
theorem Nxt.drop {K : PySem.W.Frag} {F H : Hp} {M1 M : Mem} (s : Stt K F H (M1 ++ M)) : Nxt K F H (M1 ++ M) F H M where
  st := s.part
  ex := Ex.refl F
  fr := fun _ _ e _ => e
  nw := fun _ h _ _ _ => h
  dm := fun a m => .inl (by
    unfold dom
    rw [List.map_append]
    exact List.mem_append_right _ m)
  tr := fun _ e => e
/-- C(..): a new instance -/
theorem XE.make {A : Addr} (own : Bool) (m : MonoD sp) (hE : ∀ σ, C.E σ = E) {dD : List D} (hd : ∀ F, Reps C.K F dD dvs) (h : XA C t ds M fun xs M1 => ∀ q, q ∉ dom M1 → (D.raw q :: (xs ++ dD)).length = n ∧
      sp (.raw q :: (xs ++ dD)) [(q, .ins A [])] (fun r M' => r = .non ∧ ∃ fs, M' = [(q, .ins A fs)] ∧ if own = true then k (.raw q) ((q, .ins A fs) :: M1) else k (.ins A fs) M1) (fun cls fs M' => C.x ds cls fs M1)) :
    XE C (tMake A (spD C.K n sp) dvs E t) ds M k := fun F H σ s e c Q g =>
  h F H σ s e c _ fun xs M1 vs F1 H1 n1 r1 h1 => fun x dx hx hdx hne => by
    have na := Nxt.newX (o := .own x) n1.st hdx
    have hx' : upd H1 dx (.own x) x = none := by
      rw [upd_ne (Ne.symm hne)]
      exact hx
    have nb := Nxt.newM (o := .ins A dx []) (m := .ins A []) na.st hx' ⟨dx, [], rfl, .nil⟩
    have nab := na.trans nb
    obtain ⟨hl, q⟩ := h1 x (n1.st.out hx)
    have sx : Stt C.K F1 (upd (upd H1 dx (.own x)) x (.ins A dx [])) ([(x, .ins A [])] : Mem) := ⟨nab.st.ex, fun q hq => nab.st.mem q (by
      rcases List.mem_cons.mp hq with e | hq
      · subst e
        exact List.mem_cons_self
      · cases hq), by simp⟩
    -- the callee sees the instance alone; M1 is what else is owned
    have whole : ∀ {F' H' : Hp} {M' : Mem}, Nxt C.K F1 (upd (upd H1 dx (.own x)) x (.ins A dx [])) [(x, .ins A [])] F' H' M' → Nxt C.K F H M F' H' (M1 ++ M') := fun {F' H' M'} nn => by
      have perm : Stt C.K F1 (upd (upd H1 dx (.own x)) x (.ins A dx [])) (M1 ++ [(x, .ins A [])]) := ⟨nab.st.ex, fun q hq => nab.st.mem q (by
        rcases List.mem_append.mp hq with hq | hq
        · exact List.mem_cons_of_mem _ hq
        · rcases List.mem_cons.mp hq with e | hq
          · subst e
            exact List.mem_cons_self
          · cases hq), by
        unfold dom
        rw [List.map_append]
        exact List.nodup_append.mpr ⟨(List.nodup_cons.mp nab.st.nd).2, by simp, fun a ha b hb e => by
          have hb' : b = x := by simpa using hb
          subst e hb'
          exact (List.nodup_cons.mp nab.st.nd).1 ha⟩⟩
      have nw := Nxt.whole (Mr := M1) perm nn
      refine (n1.trans nab).trans ⟨nw.st, nw.ex, fun a o ha na' => nw.fr a o ha fun z => na' ?_, fun a h1 h2 na' hx => nw.nw a h1 h2 (fun z => na' ?_) hx, fun a ma => ?_, nw.tr⟩
      · unfold dom at z ⊢
        rw [List.map_append] at z
        rcases List.mem_append.mp z with z | z
        · exact List.mem_cons_of_mem _ z
        · rw [List.mem_singleton.mp (show a ∈ [x] from z)]
          exact List.mem_cons_self
      · unfold dom at z ⊢
        rw [List.map_append] at z
        rcases List.mem_append.mp z with z | z
        · exact List.mem_cons_of_mem _ z
        · rw [List.mem_singleton.mp (show a ∈ [x] from z)]
          exact List.mem_cons_self
      · refine (nw.dm a ma).imp (fun z => ?_) id
        unfold dom at z ⊢
        rw [List.map_append] at z
        rcases List.mem_append.mp z with z | z
        · exact List.mem_cons_of_mem _ z
        · rw [List.mem_singleton.mp (show a ∈ [x] from z)]
          exact List.mem_cons_self
    have swap : ∀ {F' H' : Hp} {q : Addr × MO}, Stt C.K F' H' (M1 ++ [q]) → Nxt C.K F' H' (M1 ++ [q]) F' H' (q :: M1) := fun {F' H' q} s' => by
      refine ⟨⟨s'.ex, fun p hp => s'.mem p ?_, ?_⟩, Ex.refl _, fun _ _ e _ => e, fun _ e _ _ _ => e, fun a ma => .inl ?_, fun _ e => e⟩
      · rcases List.mem_cons.mp hp with e | hp
        · subst e
          exact List.mem_append_right _ List.mem_cons_self
        · exact List.mem_append_left _ hp
      · have nd := s'.nd
        unfold dom at nd ⊢
        rw [List.map_append] at nd
        obtain ⟨a1, a2, a3⟩ := List.nodup_append.mp nd
        exact List.nodup_cons.mpr ⟨fun z => a3 _ z q.1 (by simp) rfl, a1⟩
      · unfold dom at ma ⊢
        rw [List.map_append]
        rcases List.mem_cons.mp ma with e | ma
        · exact List.mem_append_right _ (by simp [e])
        · exact List.mem_append_left _ ma
    refine ⟨F1, [(x, .ins A [])], _, sx, .cons (.raw x) (r1.append (hd F1)), hl, m _ _ _ _ _ _ (fun r M' hq v F' H' nn rr => ?_) (fun cls fs M' hq d F' H' nn ex => ?_) q⟩
    · obtain ⟨rfl, fs, rfl, hk⟩ := hq
      cases rr
      refine ⟨rfl, ?_⟩
      have N := whole nn
      have N2 := N.trans (swap N.st)
      cases own with
      | true => exact g _ _ _ _ _ N2 (.raw x) hk
      | false =>
        obtain ⟨F2, n2, r2⟩ := frz_ins N2.st Del.hd
        exact g _ _ _ _ _ (N2.trans n2) r2 hk
    · rw [← hE σ]
      have N := whole nn
      have N2 : Nxt C.K F H M F' H' M1 := N.trans ⟨⟨N.st.ex, fun p hp => N.st.mem p (List.mem_append_left _ hp), N.st.nd.sublist ((List.sublist_append_left M1 M').map _)⟩, Ex.refl _, fun _ _ e _ => e, fun _ e _ _ _ => e, fun a ma => .inl (by
        unfold dom
        rw [List.map_append]
        exact List.mem_append_left _ ma), fun _ e => e⟩
      exact c ds σ cls fs M1 F' H' d N2 (e.mono N2.ex) hq ex

/-! ### raise X('..'), X without an own __init__ -/
theorem XS.raiseO {A : Addr} (hE : ∀ σ, C.E σ = E) (h : C.x ds (.ref A) [] M) : XS C (fun _ σ H => (fun (_ : L2.St) (H : Hp) (Q : XK) => Q (.ref A) none H) σ H fun cls d H' => (fun cls d (_ : L2.St) H => E cls d H) cls d σ H') ds M P := fun F H σ s e c D f => by
  show E (.ref A) none H
  rw [← hE σ]
  exact c ds σ _ [] M F H none (Nxt.refl s) e h rfl

/-! ### dicts with keys that are ints or texts -/
def valD (es : List (Key × D)) (q : Key) : Option D := (es.find? fun kv => decide (kv.1 = q)).map (·.2)
def putDK (es : List (Key × D)) (q : Key) (d : D) : List (Key × D) :=
  if (es.any fun kv => decide (kv.1 = q)) = true then es.map (fun kv => if kv.1 = q then (kv.1, d) else kv) else es ++ [(q, d)]
theorem RepK.val {K : PySem.W.Frag} {F : Hp} {q : Key} : ∀ {es : List (Key × D)} {kvs : List (Key × V)}, RepK K F es kvs → (∀ d, valD es q = some d → ∃ v, valV kvs q = some v ∧ Rep K F d v) ∧ (valD es q = none → valV kvs q = none)
  | _, _, .nil => ⟨fun d h => by simp [valD] at h, fun _ => rfl⟩
  | (n, d0) :: es, (_, v0) :: kvs, .cons h r => by
    by_cases z : n = q
    · refine ⟨fun d hd => ?_, fun hd => ?_⟩
      · simp [valD, List.find?_cons, z] at hd
        subst hd
        exact ⟨v0, valV_pos z, h⟩
      · simp [valD, List.find?_cons, z] at hd
    · have e1 : valD ((n, d0) :: es) q = valD es q := by simp [valD, List.find?_cons, z]
      rw [e1, valV_neg z]
      exact RepK.val r
theorem RepK.any {K : PySem.W.Frag} {F : Hp} {q : Key} : ∀ {es : List (Key × D)} {kvs : List (Key × V)}, RepK K F es kvs → (es.any fun kv => decide (kv.1 = q)) = (kvs.any fun kv => decide (kv.1 = q))
  | _, _, .nil => rfl
  | (n, d0) :: es, (_, v0) :: kvs, .cons h r => by
    rw [List.any_cons, List.any_cons, RepK.any r]
theorem RepK.mapPut {K : PySem.W.Frag} {F : Hp} {q : Key} {d : D} {v : V} (h : Rep K F d v) : ∀ {es : List (Key × D)} {kvs : List (Key × V)}, RepK K F es kvs → RepK K F (es.map (fun kv => if kv.1 = q then (kv.1, d) else kv)) (kvs.map (fun kv => if kv.1 = q then (kv.1, v) else kv))
  | _, _, .nil => .nil
  | (n, d0) :: es, (_, v0) :: kvs, .cons h0 r => by
    rw [List.map_cons, List.map_cons]
    by_cases z : n = q
    · rw [if_pos (show ((n, d0) : Key × D).1 = q from z), if_pos (show ((n, v0) : Key × V).1 = q from z)]
      exact .cons h (RepK.mapPut h r)
    · rw [if_neg (show ¬ ((n, d0) : Key × D).1 = q from z), if_neg (show ¬ ((n, v0) : Key × V).1 = q from z)]
      exact .cons h0 (RepK.mapPut h r)
theorem RepK.app {K : PySem.W.Frag} {F : Hp} : ∀ {es es' : List (Key × D)} {kvs kvs' : List (Key × V)}, RepK K F es kvs → RepK K F es' kvs' → RepK K F (es ++ es') (kvs ++ kvs')
  | _, _, _, _, .nil, s => s
  | _, _, _, _, .cons h r, s => .cons h (RepK.app r s)
theorem RepK.put {K : PySem.W.Frag} {F : Hp} {q : Key} {d : D} {v : V} (h : Rep K F d v) {es : List (Key × D)} {kvs : List (Key × V)} (r : RepK K F es kvs) : RepK K F (putDK es q d) (putK kvs q v) := by
  unfold putDK putK
  rw [← r.any]
  split
  · exact r.mapPut h
  · exact r.app (.cons h .nil)
def keyD : Key → D
  | .inl i => .int i
  | .inr x => .str x
theorem Rep.key {K : PySem.W.Frag} {F : Hp} {q : Key} {v : V} (r : Rep K F (keyD q) v) : v = kV q := by
  cases q <;> cases r <;> rfl
theorem Rep.ofKey {K : PySem.W.Frag} {F : Hp} (q : Key) : Rep K F (keyD q) (kV q) := by
  cases q
  · exact .int _
  · exact .str _
theorem XE.dget (h : XE C ta ds M fun x M1 => XE C tb ds M1 fun y M2 => ∃ es q d, DcAt M2 x es ∧ y = keyD q ∧ valD es q = some d ∧ k d M2) : XE C (tDGet ta tb) ds M k := fun F H σ s e c Q g =>
  h F H σ s e c _ fun x M1 v F1 H1 n1 r1 h1 => h1 F1 H1 σ n1.st (e.mono n1.ex) (c.next n1) _ fun y M2 u F2 H2 n2 r2 h2 => by
    obtain ⟨es, q, d, hd, rfl, hv, hq⟩ := h2
    obtain ⟨p, kvs, rfl, hp, rk⟩ := hd.get n2.st (r1.mono n2.ex)
    obtain ⟨w, hw, rw'⟩ := (rk.val (q := q)).1 d hv
    have eu := r2.key
    subst eu
    refine ⟨p, w, rfl, ?_, g _ _ _ _ _ (n1.trans n2) rw' hq⟩
    rw [← hw]
    exact DGet.k hp
theorem XE.din (h : XE C tb ds M fun y M1 => XE C ta ds M1 fun x M2 => ∃ es q, DcAt M2 x es ∧ y = keyD q ∧ k (.bl (valD es q).isSome) M2) : XE C (tDIn tb ta) ds M k := fun F H σ s e c Q g =>
  h F H σ s e c _ fun y M1 u F1 H1 n1 r1 h1 => h1 F1 H1 σ n1.st (e.mono n1.ex) (c.next n1) _ fun x M2 v F2 H2 n2 r2 h2 => by
    obtain ⟨es, q, hd, rfl, hq⟩ := h2
    obtain ⟨p, kvs, rfl, hp, rk⟩ := hd.get n2.st r2
    have eu := r1.key
    subst eu
    refine ⟨p, _, rfl, DGet.k hp, ?_⟩
    have e1 : (valV kvs q).isSome = (valD es q).isSome := by
      cases z : valD es q with
      | none =>
        rw [(rk.val (q := q)).2 z]
        rfl
      | some d =>
        obtain ⟨w, hw, _⟩ := (rk.val (q := q)).1 d z
        rw [hw]
        rfl
    rw [e1]
    exact g _ _ _ _ _ (n1.trans n2) (.bl _) hq
theorem XE.dni (h : XE C tb ds M fun y M1 => XE C ta ds M1 fun x M2 => ∃ es q, DcAt M2 x es ∧ y = keyD q ∧ k (.bl (!(valD es q).isSome)) M2) : XE C (tDNotIn tb ta) ds M k := fun F H σ s e c Q g =>
  h F H σ s e c _ fun y M1 u F1 H1 n1 r1 h1 => h1 F1 H1 σ n1.st (e.mono n1.ex) (c.next n1) _ fun x M2 v F2 H2 n2 r2 h2 => by
    obtain ⟨es, q, hd, rfl, hq⟩ := h2
    obtain ⟨p, kvs, rfl, hp, rk⟩ := hd.get n2.st r2
    have eu := r1.key
    subst eu
    refine ⟨p, _, rfl, DGet.k hp, ?_⟩
    have e1 : (valV kvs q).isSome = (valD es q).isSome := by
      cases z : valD es q with
      | none =>
        rw [(rk.val (q := q)).2 z]
        rfl
      | some d =>
        obtain ⟨w, hw, _⟩ := (rk.val (q := q)).1 d z
        rw [hw]
        rfl
    rw [e1]
    exact g _ _ _ _ _ (n1.trans n2) (.bl _) hq
theorem XS.dput (h : XE C tc ds M fun z M1 => XE C ta ds M1 fun x M2 => XE C tb ds M2 fun y M3 => ∃ p es q M4, x = .raw p ∧ y = keyD q ∧ Up M3 p (.dct es) (.dct (putDK es q z)) M4 ∧ es.length < 16000000 ∧ P.nx ds M4) : XS C (sDPut ta tb tc) ds M P := fun F H σ s e c D f =>
  h F H σ s e c _ fun z M1 v F1 H1 n1 r1 h1 => h1 F1 H1 σ n1.st (e.mono n1.ex) (c.next n1) _ fun x M2 u F2 H2 n2 r2 h2 => h2 F2 H2 σ n2.st (e.mono (n1.trans n2).ex) (c.next (n1.trans n2)) _ fun y M3 w F3 H3 n3 r3 h3 => by
    obtain ⟨p, es, q, M4, rfl, rfl, hu, hl, hq⟩ := h3
    cases r2
    have ew := r3.key
    subst ew
    obtain ⟨_, o, hp, kvs, rfl, rk⟩ := n3.st.at hu.at
    have n123 := (n1.trans n2).trans n3
    have n4 := Nxt.put n3.st (o := .dK (putK kvs q v)) hu ⟨_, rfl, rk.put (r1.mono (n2.trans n3).ex)⟩
    exact ⟨p, _, rfl, DPut.k hp (by rw [← rk.length]; exact sz1 hl), f.nx _ _ _ _ _ (n123.trans n4) (e.mono (n123.trans n4).ex) hq⟩
/-- {k: v, ..}: pairs of written keys -/
def XPr (C : Cfg) (trs : List (TE × TE)) (ds : DS) (M : Mem) (k : List (D × D) → Mem → Prop) : Prop :=
  ∀ F H σ, Stt C.K F H M → EnvR C.K F ds σ → Cov C F H M → ∀ Q : List (V × V) → Hp → Prop, (∀ d M' v F' H', Nxt C.K F H M F' H' M' → Paired (fun (x : D × D) (y : V × V) => Rep C.K F' x.1 y.1 ∧ Rep C.K F' x.2 y.2) d v → k d M' → Q v H') → tPairs trs σ H Q
theorem XPr.nil {k : List (D × D) → Mem → Prop} (h : k [] M) : XPr C [] ds M k := fun F H σ s e c Q g => g [] M [] F H (Nxt.refl s) .nil h
theorem Paired.imp2 {α β : Type} {R S : α → β → Prop} (f : ∀ a b, R a b → S a b) : ∀ {xs : List α} {ys : List β}, Paired R xs ys → Paired S xs ys
  | _, _, .nil => .nil
  | _, _, .cons h r => .cons (f _ _ h) (Paired.imp2 f r)
theorem XPr.cons {k : List (D × D) → Mem → Prop} {trs : List (TE × TE)} (h : XE C ta ds M fun x M1 => XE C tb ds M1 fun y M2 => XPr C trs ds M2 fun ps M3 => k ((x, y) :: ps) M3) : XPr C ((ta, tb) :: trs) ds M k := fun F H σ s e c Q g =>
  h F H σ s e c _ fun x M1 v F1 H1 n1 r1 h1 => h1 F1 H1 σ n1.st (e.mono n1.ex) (c.next n1) _ fun y M2 u F2 H2 n2 r2 h2 => h2 F2 H2 σ n2.st (e.mono (n1.trans n2).ex) (c.next (n1.trans n2)) _ fun ps M3 ws F3 H3 n3 r3 h3 =>
    g _ _ _ _ _ ((n1.trans n2).trans n3) (.cons ⟨r1.mono (n2.trans n3).ex, r2.mono n3.ex⟩ r3) h3
def mergeD (es : List (Key × D)) : List (Key × D) := es.foldl (fun acc kv => putDK acc kv.1 kv.2) []
theorem RepK.merge {K : PySem.W.Frag} {F : Hp} : ∀ {more : List (Key × D)} {rs : List (Key × V)}, RepK K F more rs → ∀ {es : List (Key × D)} {kvs : List (Key × V)}, RepK K F es kvs → RepK K F (more.foldl (fun acc kv => putDK acc kv.1 kv.2) es) (rs.foldl (fun acc kv => putK acc kv.1 kv.2) kvs)
  | _, _, .nil, _, _, q => q
  | _, _, .cons h r, _, _, q => RepK.merge r (q.put h)
theorem pairs_keys {K : PySem.W.Frag} {F : Hp} : ∀ {es : List (Key × D)} {ps : List (V × V)}, Paired (fun (x : D × D) (y : V × V) => Rep K F x.1 y.1 ∧ Rep K F x.2 y.2) (es.map fun kv => (keyD kv.1, kv.2)) ps → ∃ kvs : List (Key × V), ps = kvs.map (fun kv => (kV kv.1, kv.2)) ∧ RepK K F es kvs
  | [], _, .nil => ⟨[], rfl, .nil⟩
  | (q, d) :: es, _, .cons h r => by
    rename_i p ps
    obtain ⟨kvs, e, rk⟩ := pairs_keys r
    obtain ⟨h1, h2⟩ := h
    refine ⟨(q, p.2) :: kvs, ?_, .cons h2 rk⟩
    rw [e, List.map_cons]
    have e1 : p.1 = kV q := h1.key
    show p :: _ = (kV q, p.2) :: _
    rw [← e1]
theorem XE.disp {trs : List (TE × TE)} (h : ∀ p, p ∉ dom M → XPr C trs ds ((p, .dct []) :: M) fun ps M2 => ∃ es M3, ps = es.map (fun kv => (keyD kv.1, kv.2)) ∧ es.length ≤ 15 ∧ Up M2 p (.dct []) (.dct (mergeD es)) M3 ∧ k (.raw p) M3) : XE C (tDisp trs) ds M k := fun F H σ s e c Q g => by
  intro p hp
  have nL := Nxt.newM s (o := .dK []) (m := .dct []) hp ⟨[], rfl, .nil⟩
  refine h p (s.out hp) F _ σ nL.st (e.mono nL.ex) (c.next nL) _ fun ps M2 vs F2 H2 n2 r2 h2 => ?_
  obtain ⟨es, M3, rfl, hl, hu, hk⟩ := h2
  obtain ⟨_, o, h3, kvs0, rfl, r0⟩ := n2.st.at hu.at
  cases r0
  obtain ⟨kvs, rfl, rk⟩ := pairs_keys r2
  have n3 := Nxt.put n2.st (o := .dK (mergeK [] kvs)) hu ⟨_, rfl, RepK.merge rk .nil⟩
  exact ⟨h3, kvs, rfl, by rw [← rk.length]; exact hl, g _ _ _ _ _ ((nL.trans n2).trans n3) (.raw p) hk⟩

/-! ### texts walked; zip, enumerate -/
theorem items_str {F0 : Hp} {K : PySem.W.Frag} (z : Str) : Items K F0 (Its z) (z.cps.toList.map fun c => D.str ⟨#[c]⟩) := fun i F H M e s => by
  refine ⟨fun x hx => ?_, fun hl => by rw [List.length_map, Array.length_toList] at hl; exact hl⟩
  rw [List.getElem?_map, Array.getElem?_toList] at hx
  cases q : z.cps[i]? with
  | none =>
    rw [q] at hx
    cases hx
  | some c =>
    rw [q] at hx
    cases hx
    refine ⟨(Array.getElem?_eq_some_iff.mp q).1, fun w H2 y => ?_⟩
    obtain ⟨rfl, c', hc, rfl⟩ := y
    rw [q] at hc
    cases hc
    exact ⟨F, Nxt.refl s, .str _⟩
theorem XI.str {te : TE} {kl : List D → Mem → Prop} (h : XE C te ds M fun x M1 => ∃ z, x = .str z ∧ kl (z.cps.toList.map fun c => D.str ⟨#[c]⟩) M1) : XI C (iStr te) ds M kl := fun F H σ s e c R g =>
  h F H σ s e c _ fun x M1 v F1 H1 n1 r1 h1 => by
    obtain ⟨z, rfl, q⟩ := h1
    cases r1
    exact ⟨z, rfl, g _ M1 _ F1 H1 n1 (items_str z) q⟩
def enumD (xs : List D) : List D := xs.mapIdx fun i x => D.tup [.int (i : Nat), x]
theorem items_enum {F0 : Hp} {K : PySem.W.Frag} {a : Addr} {xs : List D} {vs : List V} (h : SqL K F0 a vs) (r : Reps K F0 xs vs) : Items K F0 (Ite K a) (enumD xs) := fun i F H M e s => by
  have hq : SqL K H a vs := ex_l (e.trans s.ex) h
  refine ⟨fun x hx => ?_, fun hl => ⟨vs, hq, by unfold enumD at hl; rw [List.length_mapIdx] at hl; rw [← r.length]; exact hl⟩⟩
  unfold enumD at hx
  rw [List.getElem?_mapIdx] at hx
  cases q : xs[i]? with
  | none =>
    rw [q] at hx
    cases hx
  | some d =>
    rw [q] at hx
    cases hx
    obtain ⟨v, hv, rv⟩ := r.get q
    refine ⟨⟨vs, v, hq, hv⟩, fun w H2 y => ?_⟩
    obtain ⟨T, x, rfl, hT, rfl, y⟩ := y
    have e2 := y vs hq
    rw [hv] at e2
    cases e2
    have n := Nxt.newF s (o := .tup [.int (i : Nat), v]) hT
    exact ⟨_, n, .tup (.inl (.inl upd_same)) (.cons (.int _) (.cons ((rv.mono e).mono n.ex) .nil))⟩
theorem XI.enum {t : TA} {kl : List D → Mem → Prop} (h : XA C t ds M fun ys M1 => ∃ y xs, ys = [y] ∧ (y = .lst xs ∨ y = .ro xs) ∧ kl (enumD xs) M1) : XI C (iEnum C.K t) ds M kl := fun F H σ s e c R g =>
  h F H σ s e c _ fun ys M1 v F1 H1 n1 r1 h1 => by
    obtain ⟨y, xs, rfl, hy, q⟩ := h1
    cases r1 with
    | cons r1 r2 =>
      cases r2
      rcases hy with rfl | rfl
      · cases r1 with
        | @lst a vs _ h2 q2 => exact ⟨a, vs, rfl, SqL.of (n1.st.ex _ _ h2), g _ M1 _ F1 H1 n1 (items_enum (SqL.of h2) q2) q⟩
      · cases r1 with
        | @ro a vs _ h2 q2 => exact ⟨a, vs, rfl, ex_l n1.st.ex h2, g _ M1 _ F1 H1 n1 (items_enum h2 q2) q⟩
def zipD (xs ys : List D) : List D := (xs.zip ys).map fun p => D.tup [p.1, p.2]
theorem zipD_get {xs ys : List D} {i : Nat} {x : D} (h : (zipD xs ys)[i]? = some x) : ∃ a b, xs[i]? = some a ∧ ys[i]? = some b ∧ x = .tup [a, b] := by
  unfold zipD at h
  rw [List.getElem?_map] at h
  cases q : (xs.zip ys)[i]? with
  | none =>
    rw [q] at h
    cases h
  | some p =>
    rw [q] at h
    cases h
    have := List.getElem?_zip_eq_some.mp q
    exact ⟨p.1, p.2, this.1, this.2, rfl⟩
theorem items_zipL {F0 : Hp} {K : PySem.W.Frag} {a b : Addr} {xs ys : List D} {vs us : List V} (h : SqL K F0 a vs) (h' : SqL K F0 b us) (r : Reps K F0 xs vs) (r' : Reps K F0 ys us) : Items K F0 (Itz K a b) (zipD xs ys) := fun i F H M e s => by
  have hq : SqL K H a vs := ex_l (e.trans s.ex) h
  have hq' : SqL K H b us := ex_l (e.trans s.ex) h'
  refine ⟨fun x hx => ?_, fun hl => ⟨vs, us, hq, hq', ?_⟩⟩
  · obtain ⟨d1, d2, e1, e2, rfl⟩ := zipD_get hx
    obtain ⟨v, hv, rv⟩ := r.get e1
    obtain ⟨u, hu, ru⟩ := r'.get e2
    refine ⟨⟨vs, us, v, u, hq, hq', hv, hu⟩, fun w H2 y => ?_⟩
    obtain ⟨T, x, x', rfl, hT, rfl, y, y'⟩ := y
    have e3 := y vs hq
    have e4 := y' us hq'
    rw [hv] at e3
    rw [hu] at e4
    cases e3
    cases e4
    have n := Nxt.newF s (o := .tup [v, u]) hT
    exact ⟨_, n, .tup (.inl (.inl upd_same)) (.cons ((rv.mono e).mono n.ex) (.cons ((ru.mono e).mono n.ex) .nil))⟩
  · unfold zipD at hl
    rw [List.length_map, List.length_zip, r.length, r'.length] at hl
    omega
theorem items_zipT {F0 : Hp} {K : PySem.W.Frag} {a b : Addr} {xs ys : List D} {vs us : List V} (h : SqT K F0 a vs) (h' : SqT K F0 b us) (r : Reps K F0 xs vs) (r' : Reps K F0 ys us) : Items K F0 (RZ.ItzT K a b) (zipD xs ys) := fun i F H M e s => by
  have hq : SqT K H a vs := ex_t (e.trans s.ex) h
  have hq' : SqT K H b us := ex_t (e.trans s.ex) h'
  refine ⟨fun x hx => ?_, fun hl => ⟨vs, us, hq, hq', ?_⟩⟩
  · obtain ⟨d1, d2, e1, e2, rfl⟩ := zipD_get hx
    obtain ⟨v, hv, rv⟩ := r.get e1
    obtain ⟨u, hu, ru⟩ := r'.get e2
    refine ⟨⟨vs, us, v, u, hq, hq', hv, hu⟩, fun w H2 y => ?_⟩
    obtain ⟨T, x, x', rfl, hT, rfl, y, y'⟩ := y
    have e3 := y vs hq
    have e4 := y' us hq'
    rw [hv] at e3
    rw [hu] at e4
    cases e3
    cases e4
    have n := Nxt.newF s (o := .tup [v, u]) hT
    exact ⟨_, n, .tup (.inl (.inl upd_same)) (.cons ((rv.mono e).mono n.ex) (.cons ((ru.mono e).mono n.ex) .nil))⟩
  · unfold zipD at hl
    rw [List.length_map, List.length_zip, r.length, r'.length] at hl
    omega
theorem XI.zip {t : TA} {kl : List D → Mem → Prop} (h : XA C t ds M fun zs M1 => ∃ x y xs ys, zs = [x, y] ∧ ((x = .lst xs ∧ y = .lst ys) ∨ (x = .tup xs ∧ y = .tup ys)) ∧ kl (zipD xs ys) M1) : XI C (RZ.iZipA C.K t) ds M kl := fun F H σ s e c R g =>
  h F H σ s e c _ fun zs M1 v F1 H1 n1 r1 h1 => by
    obtain ⟨x, y, xs, ys, rfl, hy, q⟩ := h1
    cases r1 with
    | cons r1 r2 =>
      cases r2 with
      | cons r2 r3 =>
        cases r3
        rcases hy with ⟨rfl, rfl⟩ | ⟨rfl, rfl⟩
        · cases r1 with
          | @lst a vs _ h1 q1 =>
            cases r2 with
            | @lst b us _ h2 q2 => exact ⟨a, b, vs, us, rfl, .inl ⟨SqL.of (n1.st.ex _ _ h1), SqL.of (n1.st.ex _ _ h2), g _ M1 _ F1 H1 n1 (items_zipL (SqL.of h1) (SqL.of h2) q1 q2) q⟩⟩
        · cases r1 with
          | @tup a vs _ h1 q1 =>
            cases r2 with
            | @tup b us _ h2 q2 => exact ⟨a, b, vs, us, rfl, .inr ⟨ex_t n1.st.ex h1, ex_t n1.st.ex h2, g _ M1 _ F1 H1 n1 (items_zipT h1 h2 q1 q2) q⟩⟩
end
end DL

namespace DL
open PySem L2 PyProof.Rows

/-! ### what is walked: a list, a tuple or a text -/
def iU (K : PySem.W.Frag) (tl : TE) : TI := fun σ H R => tl σ H fun x H1 => (∃ a, x = .ref a ∧ (∃ xs, SqL K H1 a xs) ∧ R (Itl K a) H1) ∨ (∃ a, x = .ref a ∧ (∃ xs, SqT K H1 a xs) ∧ R (Itt K a) H1) ∨ ∃ z, x = .str z ∧ R (Its z) H1
theorem pi_U {X : Cx} {tg l : Expr} {tl : TE} (hl : PE X l tl) : PI X tg l (iU X.K tl) := by
  refine ⟨fun pins s σ H R I h => ?_⟩
  refine thn (hl.run pins s σ H _ I h) fun v s1 ⟨x, H1, I1, r1, q1⟩ => ?_
  rcases q1 with ⟨a, e, ⟨xs, hq⟩, q⟩ | ⟨a, e, ⟨xs, hq⟩, q⟩ | ⟨z, e, q⟩
  · subst e
    cases r1
    obtain ⟨its, rv, p, hz⟩ := I1.list hq
    refine wpAny_pyIter_list p.isList ?_
    refine ⟨s1.heap.objs.size, [s1.heap.objs.size], _, _, H1, rfl, I1.kept (t' := s1.toks) fun b o e => Heap.get?_push_of_some _ e, turn_list a _, ⟨_, Heap.get?_push_size _ rfl, rfl, rfl⟩, fun b hb => ?_, q⟩
    have e : b = s1.heap.objs.size := by simpa using hb
    subst e
    exact I1.fpOk (Nat.le_refl _) (I1.hok.fresh (Nat.le_refl _))
  · subst e
    cases r1
    obtain ⟨its, rv, p, hz⟩ := I1.tuple hq
    refine wpAny_pyIter_tuple (show s1.heap.IsTuple a its.toArray from p) ?_
    refine ⟨s1.heap.objs.size, [s1.heap.objs.size], _, _, H1, rfl, I1.kept (t' := s1.toks) fun b o e => Heap.get?_push_of_some _ e, turn_tuple a _, ⟨_, Heap.get?_push_size _ rfl, rfl, rfl⟩, fun b hb => ?_, q⟩
    have e : b = s1.heap.objs.size := by simpa using hb
    subst e
    exact I1.fpOk (Nat.le_refl _) (I1.hok.fresh (Nat.le_refl _))
  · subst e
    obtain ⟨t, rfl⟩ := r1
    cases ha : z.cps.all (· < 128)
    · exact wpAny_pyIter_wide ha (pi_one (tk := s1.toks) I1 _ (turn_str _ z t "str_iterator" (.inr rfl)) ⟨_, Heap.get?_push_size _ rfl, rfl, rfl⟩ q)
    · exact wpAny_pyIter_ascii ha (pi_one (tk := s1.toks) I1 _ (turn_str _ z t "str_ascii_iterator" (.inl rfl)) ⟨_, Heap.get?_push_size _ rfl, rfl, rfl⟩ q)
inductive WkAt : D → List D → Prop
  | lst {xs} : WkAt (.lst xs) xs
  | ro {xs} : WkAt (.ro xs) xs
  | tup {xs} : WkAt (.tup xs) xs
  | str {z} : WkAt (.str z) (z.cps.toList.map fun c => D.str ⟨#[c]⟩)
theorem XI.U {C : Cfg} {ds : DS} {M : Mem} {tl : TE} {kl : List D → Mem → Prop} (h : XE C tl ds M fun x M1 => ∃ xs, WkAt x xs ∧ kl xs M1) : XI C (iU C.K tl) ds M kl := fun F H σ s e c R g =>
  h F H σ s e c _ fun x M1 v F1 H1 n1 r1 h1 => by
    obtain ⟨xs, hx, q⟩ := h1
    cases hx with
    | lst =>
      cases r1 with
      | @lst a vs _ h2 q2 => exact .inl ⟨a, rfl, ⟨vs, SqL.of (n1.st.ex _ _ h2)⟩, g xs M1 _ F1 H1 n1 (items_lst (SqL.of h2) q2) q⟩
    | ro =>
      cases r1 with
      | @ro a vs _ h2 q2 => exact .inl ⟨a, rfl, ⟨vs, ex_l n1.st.ex h2⟩, g xs M1 _ F1 H1 n1 (items_lst h2 q2) q⟩
    | tup =>
      cases r1 with
      | @tup a vs _ h2 q2 => exact .inr (.inl ⟨a, rfl, ⟨vs, ex_t n1.st.ex h2⟩, g xs M1 _ F1 H1 n1 (items_tup h2 q2) q⟩)
    | @str z =>
      cases r1
      exact .inr (.inr ⟨z, rfl, g _ M1 _ F1 H1 n1 (items_str z) q⟩)

/-! ### calls with keywords alone -/
def tCallN0 (m : Nat) (sp : Sp) (gV : List V → List V → List V) (E : XK) (tk : TA) : TE := fun σ H Q => tk σ H fun zs H2 => zs.length = m ∧ sp (gV [] zs) H2 Q E
theorem pe_callN0 {X : Cx} {CX : CXT} {k : Nat} {f : Addr} {fd : FuncData} {ps ks : List Str} {sp : Sp} {E : XK} {x : Str} {p pos : Pos} {kws : List Keyword} {tk : TA} {g : List Value → List Value → List Value} {gV : List V → List V → List V}
    (F : FnOk X.prog X.w X.K X.mg X.base CX k f fd ps sp) (hr : Room k X.A) (hg : Gl X x) (hm : X.mg x = some (.ref f)) (hk : PySem.W.keepIn X.K (.ref f) = true) (hb : KBn X.K fd ps 0 ks g gV) (hx : Passes CX X E)
    (hkw : PK X kws tk) (hall : (backToKw pos (keywordEach kws X.env)).all (·.1.isSome) = true := by rfl) (hks : (backToKw pos (keywordEach kws X.env)).filterMap (·.1) = ks := by rfl)
    (hdb : (x == ("__debug__" : Str)) = false := by decide)
    (hpl : ((backTo pos (starEach [] X.env)).any (·.1) || (backToKw pos (keywordEach kws X.env)).any (·.1.isNone)) = false := by rfl) :
    PE X (.Call (.Name x p) [] kws pos) (tCallN0 ks.length sp gV E tk) := by
  refine ⟨fun pins s σ H Q I h => ?_⟩
  refine wpAny_Call_Name_kw (ld_glob I hg hm ?_ hdb)
  refine PySem.W.callWith_KW0 (h₀ := X.base) I.ok.mod.kin hk hall (thn (hkw.run pos pins s σ H _ I h) fun ws s2 ⟨zs, H2, I2, rz, l2, q2⟩ => ⟨I2.kIn, ?_⟩) hpl
  rw [hks]
  exact run_fnN (us := []) F hr hb hx I2 .nil rz rfl l2 q2
theorem XE.callN0 {C : Cfg} {ds : DS} {M : Mem} {k : D → Mem → Prop} {n m : Nat} {sp : DSp} {E : XK} {tk : TA} {gV : List V → List V → List V} (mo : MonoD sp) (hE : ∀ σ, C.E σ = E) {gD : List D → List D} (hg : ∀ F ds vs, ds.length = m → Reps C.K F ds vs → Reps C.K F (gD ds) (gV [] vs))
    (h : XA C tk ds M fun xs M1 => xs.length = m ∧ ∃ Mr Mc, M1 = Mr ++ Mc ∧ (gD xs).length = n ∧ sp (gD xs) Mc (fun r M' => k r (Mr ++ M')) (fun cls fs M' => C.x ds cls fs (Mr ++ M'))) :
    XE C (tCallN0 m (spD C.K n sp) gV E tk) ds M k := fun F H σ s e c Q g =>
  h F H σ s e c _ fun xs M1 vs F1 H1 n1 r1 h1 => by
    obtain ⟨hm, Mr, Mc, rfl, hl, q⟩ := h1
    refine ⟨by rw [← r1.length]; exact hm, ?_⟩
    exact spD_use (x := C.x ds) n1.st (hg F1 xs vs hm r1) hl q (g.next n1) (fun cls fs M' d F' H' n2 hx ex => by
      rw [← hE σ]
      exact c ds σ cls fs M' F' H' d (n1.trans n2) (e.mono (n1.trans n2).ex) hx ex) (mo _ _)
theorem XE.callN {C : Cfg} {ds : DS} {M : Mem} {k : D → Mem → Prop} {n a m : Nat} {sp : DSp} {E : XK} {t tk : TA} {gV : List V → List V → List V} (mo : MonoD sp) (hE : ∀ σ, C.E σ = E) {gD : List D → List D → List D} (hg : ∀ F ds vs es us, ds.length = a → es.length = m → Reps C.K F ds vs → Reps C.K F es us → Reps C.K F (gD ds es) (gV vs us))
    (h : XA C t ds M fun xs M1 => XA C tk ds M1 fun ys M2 => xs.length = a ∧ ys.length = m ∧ ∃ Mr Mc, M2 = Mr ++ Mc ∧ (gD xs ys).length = n ∧ sp (gD xs ys) Mc (fun r M' => k r (Mr ++ M')) (fun cls fs M' => C.x ds cls fs (Mr ++ M'))) :
    XE C (tCallN a m (spD C.K n sp) gV E t tk) ds M k := fun F H σ s e c Q g =>
  h F H σ s e c _ fun xs M1 vs F1 H1 n1 r1 h1 => h1 F1 H1 σ n1.st (e.mono n1.ex) (c.next n1) _ fun ys M2 us F2 H2 n2 r2 h2 => by
    obtain ⟨ha, hm, Mr, Mc, rfl, hl, q⟩ := h2
    refine ⟨by rw [← r1.length]; exact ha, by rw [← r2.length]; exact hm, ?_⟩
    have n12 := n1.trans n2
    exact spD_use (x := C.x ds) n2.st (hg F2 xs vs ys us ha hm (r1.mono n2.ex) r2) hl q (g.next n12) (fun cls fs M' d F' H' n3 hx ex => by
      rw [← hE σ]
      exact c ds σ cls fs M' F' H' d (n12.trans n3) (e.mono (n12.trans n3).ex) hx ex) (mo _ _)

/-! ### the defs of the text -/
structure FnT (K : PySem.W.Frag) (mg : Str → Option Value) (x : Str) (st : Stmt) (dvs : List V) (kws : List (Str × V)) where
  a : Addr
  fd : FuncData
  F : FunD K x x (defArgs st) (defBody st) (defScope st) dvs kws a fd
  g : mg x = some (.ref a)
structure MeT (K : PySem.W.Frag) (C : Addr) (m qual : Str) (st : Stmt) where
  a : Addr
  fd : FuncData
  F : FunD K m qual (defArgs st) (defBody st) (defScope st) [] [] a fd
  me : Meth K C m a
section
variable {P : Program} {w : World} {K : PySem.W.Frag} {mg : Str → Option Value} {base : Heap}
theorem fn_okD {x qual : Str} {st : Stmt} {f : Addr} {fd : FuncData} {N ps : List Str} {k n : Nat} {sp : DSp} {dvs : List V} {kws : List (Str × V)} (F : FunD K x qual (defArgs st) (defBody st) (defScope st) dvs kws f fd) (S : FnScope N ps (defScope st)) (hn : ps.length = n)
    (body : ∀ (cdv : Value) (A : Around) (outer : List Env) (s : Shared) (H : Hp) (E : XK), Room k (A.deeper (envOfC qual (defScope st) s.heap.objs.size f cdv)) →
      ∃ t, PSs (cxOf (L2.CX P w) P w K mg base N qual (defScope st) f cdv A outer s H E) (defBody st) t ∧
        ∀ ds M kk xx, ds.length = n → sp ds M kk xx → XS (cfg K E xx) t (dstart N ds) M { nx := fun _ M' => kk .non M', rt := kk }) :
    FnOk P w K mg base (L2.CX P w) (k + 1) f fd ps (spD K n sp) := by
  refine F.ok S (fun vs H Q E h => (spD_len vs H Q E h).trans hn.symm) fun cdv A outer s H vs Q E hr h => ?_
  obtain ⟨Fz, M, ds, st, r, hl, h⟩ := h
  obtain ⟨t, ht, hx⟩ := body cdv A outer s H E hr
  refine ⟨t, ht, hx ds M _ _ hl h Fz H _ st (EnvR.begun r) (fun ds0 σ0 cls fs M' F' H' d n _ q ex => q d F' H' n ex) _ ⟨?_, ?_, ?_, ?_⟩⟩
  · exact fun ds' M' σ' F' H' n e q => q .non F' H' n .non
  · exact fun d M' v F' H' n r q => q v F' H' n r
  · exact fun ds' M' σ' F' H' n e q => False.elim q
  · exact fun ds' M' σ' F' H' n e q => False.elim q
/-- of a def that leaves all as it is: what it owned besides is let go -/
theorem fn_okP {x qual : Str} {st : Stmt} {f : Addr} {fd : FuncData} {N ps : List Str} {k n : Nat} {p : PSp} {dvs : List V} {kws : List (Str × V)} (F : FunD K x qual (defArgs st) (defBody st) (defScope st) dvs kws f fd) (S : FnScope N ps (defScope st)) (hn : ps.length = n)
    (body : ∀ (cdv : Value) (A : Around) (outer : List Env) (s : Shared) (H : Hp) (E : XK), Room k (A.deeper (envOfC qual (defScope st) s.heap.objs.size f cdv)) →
      ∃ t, PSs (cxOf (L2.CX P w) P w K mg base N qual (defScope st) f cdv A outer s H E) (defBody st) t ∧
        ∀ ds kk xx, ds.length = n → p ds kk xx → XS (cfg K E (fun c fs _ => xx c fs)) t (dstart N ds) [] { nx := fun _ _ => kk .non, rt := fun r _ => kk r }) :
    FnOk P w K mg base (L2.CX P w) (k + 1) f fd ps (spD K n (pur p)) := by
  refine F.ok S (fun vs H Q E h => (spD_len vs H Q E h).trans hn.symm) fun cdv A outer s H vs Q E hr h => ?_
  obtain ⟨Fz, M, ds, st, r, hl, rfl, h⟩ := h
  obtain ⟨t, ht, hx⟩ := body cdv A outer s H E hr
  have drop : ∀ {F' H' : Hp} {M' : Mem}, Nxt K Fz H [] F' H' M' → Nxt K Fz H [] F' H' [] := fun {F' H' M'} n => n.trans (Nxt.drop (M1 := M') (M := []) (by rw [List.append_nil]; exact n.st) |> fun z => by rw [List.append_nil] at z; exact z)
  refine ⟨t, ht, hx ds _ _ hl h Fz H _ st (EnvR.begun r) (fun ds0 σ0 cls fs M' F' H' d n _ q ex => q d F' H' (drop n) ex) _ ⟨?_, ?_, ?_, ?_⟩⟩
  · exact fun ds' M' σ' F' H' n e q => q .non F' H' (drop n) .non
  · exact fun d M' v F' H' n r q => q v F' H' (drop n) r
  · exact fun ds' M' σ' F' H' n e q => False.elim q
  · exact fun ds' M' σ' F' H' n e q => False.elim q
theorem px0 {N : List Str} {qual : Str} {sc : Scope} {f : Addr} {cdv : Value} {A : Around} {outer : List Env} {s : Shared} {H : Hp} {E : XK} : Passes (L2.CX P w) (cxOf (L2.CX P w) P w K mg base N qual sc f cdv A outer s H E) E :=
  passes_call (takes_of rfl rfl rfl rfl) fun _ _ _ _ h => h
theorem hu65_of {A : Around} {k : Nat} (hr : Room k A) : A.units + 65 < cLine := by have := hr.un; omega
end

/-! ### sizes of ints -/
def B (n : Nat) (x : Int) : Prop := x.natAbs < 2 ^ n
theorem B.mono {n m : Nat} {x : Int} (h : B n x) (hm : n ≤ m) : B m x := Nat.lt_of_lt_of_le h (Nat.pow_le_pow_right (by decide) hm)
theorem B.mul {n m : Nat} {x y : Int} (h : B n x) (h' : B m y) : B (n + m) (x * y) := wide_lt h h'
theorem pow_add_le (n m : Nat) : 2 ^ n + 2 ^ m ≤ 2 ^ (max n m + 1) := by
  have h1 : 2 ^ n ≤ 2 ^ max n m := Nat.pow_le_pow_right (by decide) (Nat.le_max_left _ _)
  have h2 : 2 ^ m ≤ 2 ^ max n m := Nat.pow_le_pow_right (by decide) (Nat.le_max_right _ _)
  rw [Nat.pow_succ]
  omega
theorem B.add {n m : Nat} {x y : Int} (h : B n x) (h' : B m y) : B (max n m + 1) (x + y) := by
  have h1 : x.natAbs < 2 ^ n := h
  have h2 : y.natAbs < 2 ^ m := h'
  have h3 := pow_add_le n m
  have h4 : (x + y).natAbs ≤ x.natAbs + y.natAbs := Int.natAbs_add_le x y
  show _ < _
  omega
theorem B.sub {n m : Nat} {x y : Int} (h : B n x) (h' : B m y) : B (max n m + 1) (x - y) := by
  have h1 : x.natAbs < 2 ^ n := h
  have h2 : y.natAbs < 2 ^ m := h'
  have h3 := pow_add_le n m
  have h4 : (x - y).natAbs ≤ x.natAbs + y.natAbs := Int.natAbs_sub_le x y
  show _ < _
  omega
theorem B.neg {n : Nat} {x : Int} (h : B n x) : B n (-x) := by
  show _ < _
  rw [Int.natAbs_neg]
  exact h
theorem B.nat {n : Nat} {x : Int} (h : B n x) : B n (x.natAbs : Int) := by
  show _ < _
  rw [Int.natAbs_natCast]
  exact h
theorem B.le {n : Nat} {x y : Int} (h : B n x) (hy : y.natAbs ≤ x.natAbs) : B n y := Nat.lt_of_le_of_lt hy h
theorem B.log {n : Nat} {x : Int} (h : B n x) (h0 : 0 < n) : x.natAbs.log2 < n := PySem.Flt.log2_lt_of h0 h
theorem fdiv_abs (x y : Int) : (x.fdiv y).natAbs ≤ x.natAbs := by
  by_cases h : 0 ≤ y
  · rw [Int.fdiv_eq_ediv_of_nonneg x h]
    exact Int.natAbs_ediv_le_natAbs x y
  · have e : x.fdiv y = (-x).fdiv (-y) := (Int.neg_fdiv_neg x y).symm
    rw [e, Int.fdiv_eq_ediv_of_nonneg (-x) (by omega)]
    exact Nat.le_trans (Int.natAbs_ediv_le_natAbs _ _) (by rw [Int.natAbs_neg]; exact Nat.le_refl _)
theorem B.fdiv {n : Nat} {x : Int} (h : B n x) (y : Int) : B n (x.fdiv y) := h.le (fdiv_abs x y)
theorem B.mulOk {n m : Nat} {x y : Int} (h : B n x) (h' : B m y) (hn : 0 < n) (hm : 0 < m) (hl : n + m ≤ 1000000) : CMulW x y := wide_mul h h' hn hm hl
theorem B.divOk {n : Nat} {x y : Int} (h : B n y) (h0 : y ≠ 0) (hn : 0 < n) (hl : n ≤ 9000) : CDivZ x y := ⟨h0, Nat.lt_of_lt_of_le (h.log hn) hl⟩
end DL

namespace DL
open PySem L2 PyProof.Rows
/-! ### fractions -/
def dQ (q : Rat) : D := .tup [.int q.num, .int (q.den : Int)]
structure BQ (n : Nat) (q : Rat) : Prop where
  num : B n q.num
  den : B n (q.den : Int)
theorem BQ.mono {n m : Nat} {q : Rat} (h : BQ n q) (hm : n ≤ m) : BQ m q := ⟨h.num.mono hm, h.den.mono hm⟩
theorem den_ne (q : Rat) : (q.den : Int) ≠ 0 := by
  have := q.den_nz
  omega
theorem den_pos (q : Rat) : (0 : Int) < q.den := by
  have := q.den_nz
  omega
theorem divInt_num_abs (n d : Int) : (Rat.divInt n d).num.natAbs ≤ n.natAbs := by
  rw [Rat.num_divInt]
  by_cases h : d = 0
  · subst h
    simp
  · refine Nat.le_trans (Int.natAbs_ediv_le_natAbs _ _) ?_
    rw [Int.natAbs_mul]
    have : d.sign.natAbs ≤ 1 := by
      rw [Int.natAbs_sign]
      split <;> omega
    exact Nat.le_trans (Nat.mul_le_mul_right _ this) (by omega)
theorem divInt_den_le (n d : Int) (hd : d ≠ 0) : (Rat.divInt n d).den ≤ d.natAbs := by
  rw [Rat.den_divInt, if_neg hd]
  exact Nat.div_le_self _ _
theorem BQ.divInt {a : Nat} {n d : Int} (hn : B a n) (hd : B a d) (h0 : d ≠ 0) : BQ a (Rat.divInt n d) :=
  ⟨hn.le (divInt_num_abs n d), hd.le (by rw [Int.natAbs_natCast]; exact divInt_den_le n d h0)⟩
theorem add_divInt (p q : Rat) : Rat.divInt (p.num * q.den + q.num * p.den) (p.den * q.den) = p + q := by
  rw [Rat.add_def', ← Rat.divInt_ofNat]
  rfl
theorem sub_divInt (p q : Rat) : Rat.divInt (p.num * q.den - q.num * p.den) (p.den * q.den) = p - q := by
  rw [Rat.sub_def', ← Rat.divInt_ofNat]
  rfl
theorem mul_divInt (p q : Rat) : Rat.divInt (p.num * q.num) (p.den * q.den) = p * q := by
  rw [Rat.mul_def', ← Rat.divInt_ofNat]
  rfl
theorem div_divInt (p q : Rat) : Rat.divInt (p.num * q.den) (p.den * q.num) = p / q := by
  rw [Rat.div_def, Rat.inv_def, ← Rat.divInt_mul_divInt, Rat.num_divInt_den]
theorem BQ.add {a b : Nat} {p q : Rat} (h : BQ a p) (h' : BQ b q) : BQ (a + b + 1) (p + q) := by
  rw [← add_divInt]
  refine BQ.divInt (((h.num.mul h'.den).add (h'.num.mul h.den)).mono ?_) ((h.den.mul h'.den).mono (by omega)) (Int.mul_ne_zero (den_ne p) (den_ne q))
  omega
theorem BQ.sub {a b : Nat} {p q : Rat} (h : BQ a p) (h' : BQ b q) : BQ (a + b + 1) (p - q) := by
  rw [← sub_divInt]
  refine BQ.divInt (((h.num.mul h'.den).sub (h'.num.mul h.den)).mono ?_) ((h.den.mul h'.den).mono (by omega)) (Int.mul_ne_zero (den_ne p) (den_ne q))
  omega
theorem BQ.mul {a b : Nat} {p q : Rat} (h : BQ a p) (h' : BQ b q) : BQ (a + b) (p * q) := by
  rw [← mul_divInt]
  exact BQ.divInt (h.num.mul h'.num) (h.den.mul h'.den) (Int.mul_ne_zero (den_ne p) (den_ne q))
theorem num_ne {q : Rat} (h : q ≠ 0) : q.num ≠ 0 := fun z => h (Rat.num_eq_zero.mp z)
theorem BQ.div {a b : Nat} {p q : Rat} (h : BQ a p) (h' : BQ b q) (hq : q ≠ 0) : BQ (a + b) (p / q) := by
  rw [← div_divInt]
  exact BQ.divInt (h.num.mul h'.den) (h.den.mul h'.num) (Int.mul_ne_zero (den_ne p) (num_ne hq))
theorem B.one {n : Nat} (h : 0 < n) : B n 1 := by
  show (1 : Nat) < 2 ^ n
  exact Nat.one_lt_two_pow (by omega)
theorem B.zero {n : Nat} : B n 0 := by
  show (0 : Nat) < 2 ^ n
  exact Nat.two_pow_pos n
theorem BQ.int {n : Nat} {i : Int} (h : B n i) (h0 : 0 < n) : BQ n (i : Rat) := ⟨h, B.one h0⟩
theorem dQ_zero : dQ 0 = .tup [.int 0, .int 1] := rfl
theorem dQ_one : dQ 1 = .tup [.int 1, .int 1] := rfl
theorem dQ_int (i : Int) : dQ (i : Rat) = .tup [.int i, .int 1] := rfl
theorem dQ_inj {p q : Rat} (h : dQ p = dQ q) : p = q := by
  unfold dQ at h
  injection h with h
  injection h with h1 h2
  injection h2 with h2 _
  injection h1 with h1
  injection h2 with h2
  exact Rat.ext h1 (by omega)
theorem sub_ne {p q : Rat} (h : p < q) : q - p ≠ 0 := by grind
/-- what the program's quotient by the common divisor gives -/
theorem gcd_ne {n d : Int} (h : d ≠ 0) : (Int.gcd n d : Int) ≠ 0 := by
  have := Int.gcd_pos_of_ne_zero_right n h
  omega
theorem new_pos {n d : Int} (h : 0 < d) : dQ (Rat.divInt n d) = .tup [.int (n.fdiv (Int.gcd n d)), .int (d.fdiv (Int.gcd n d))] := by
  unfold dQ
  have h0 : d ≠ 0 := by omega
  rw [Rat.num_divInt, Rat.den_divInt, if_neg h0, Int.sign_eq_one_of_pos h, Int.one_mul, Int.gcd_comm d n, Int.fdiv_eq_ediv_of_nonneg n (by omega), Int.fdiv_eq_ediv_of_nonneg d (by omega)]
  have e : ((d.natAbs / Int.gcd n d : Nat) : Int) = d / (Int.gcd n d : Int) := by
    rw [Int.natCast_ediv, Int.natAbs_of_nonneg (by omega)]
  rw [e]
theorem new_neg {n d : Int} (h : d < 0) : dQ (Rat.divInt n d) = .tup [.int (n.fdiv (-(Int.gcd n d : Int))), .int (d.fdiv (-(Int.gcd n d : Int)))] := by
  have e : Rat.divInt n d = Rat.divInt (-n) (-d) := (Rat.neg_divInt_neg n d).symm
  rw [e, new_pos (by omega), Int.gcd_neg, Int.neg_gcd]
  rw [← Int.neg_fdiv_neg n, ← Int.neg_fdiv_neg d, Int.neg_neg]
theorem den_lt {p q : Rat} : decide (p.num * (q.den : Int) < q.num * (p.den : Int)) = decide (p < q) := by
  rw [decide_eq_decide]
  exact (Rat.lt_iff p q).symm
/-- a pair in lowest terms is a fraction -/
theorem dQ_of {n d : Int} (h : 1 ≤ d) (hg : Int.gcd n d = 1) : dQ (Rat.divInt n d) = .tup [.int n, .int d] := by
  rw [new_pos (by omega), hg]
  have e1 : n.fdiv ((1 : Nat) : Int) = n := by simp
  have e2 : d.fdiv ((1 : Nat) : Int) = d := by simp
  rw [e1, e2]
theorem gcd_num_den (q : Rat) : Int.gcd q.num q.den = 1 := q.reduced

/-! ### knots -/
abbrev Kn := Rat × Rat
def dKn (k : Kn) : D := .tup [dQ k.1, dQ k.2]
structure BK (n : Nat) (k : Kn) : Prop where
  t : BQ n k.1
  x : BQ n k.2
end DL

namespace DL
open PySem L2 PyProof.Rows
theorem XS.never {C : Cfg} {ds : DS} {M : Mem} {P : Post} (h : False) : XS C tNever ds M P := h.elim
theorem dQ_ok (q : Rat) : okD 1 (dQ q) = true := rfl
theorem dKn_ok (q : Kn) : okD 2 (dKn q) = true := rfl
theorem dQ_py (q : Rat) : (dQ q).py = .tuple [.int q.num, .int q.den] := rfl
theorem dKn_py (q : Kn) : (dKn q).py = .tuple [(dQ q.1).py, (dQ q.2).py] := rfl
theorem dQ_py_inj {p q : Rat} (h : (dQ p).py = (dQ q).py) : p = q := by
  rw [dQ_py, dQ_py] at h
  injection h with h
  injection h with h1 h2
  injection h2 with h2 _
  injection h1 with h1
  injection h2 with h2
  exact Rat.ext h1 (by omega)
theorem dKn_py_inj {p q : Kn} (h : (dKn p).py = (dKn q).py) : p = q := by
  rw [dKn_py, dKn_py] at h
  injection h with h
  injection h with h1 h2
  injection h2 with h2 _
  exact Prod.ext (dQ_py_inj h1) (dQ_py_inj h2)
theorem bool_iff {b c : Bool} (h : b = true ↔ c = true) : b = c := by
  cases b <;> cases c <;> simp at h ⊢
theorem eqv_dQ (p q : Rat) : PyData.eqv (dQ p).py (dQ q).py = decide (p = q) := by
  refine bool_iff ?_
  rw [eqv_iff _ _ rfl rfl, decide_eq_true_eq]
  exact ⟨dQ_py_inj, fun h => by rw [h]⟩
theorem eqv_dKn (p q : Kn) : PyData.eqv (dKn p).py (dKn q).py = decide (p = q) := by
  refine bool_iff ?_
  rw [eqv_iff _ _ rfl rfl, decide_eq_true_eq]
  exact ⟨dKn_py_inj, fun h => by rw [h]⟩
section
variable {K : PySem.W.Frag} {M : Mem} {k : D → Mem → Prop}
theorem XR.eq_dQ {p q : Rat} (h : k (.bl (decide (p = q))) M) : XR K (rEqU K) (dQ p) (dQ q) M k := by
  rw [← eqv_dQ] at h
  exact XR.eqD (n := 1) (m := 1) .self .self rfl rfl (by decide) (by decide) h
theorem XR.ne_dQ {p q : Rat} (h : k (.bl (!decide (p = q))) M) : XR K (rNeU K) (dQ p) (dQ q) M k := by
  rw [← eqv_dQ] at h
  exact XR.neD (n := 1) (m := 1) .self .self rfl rfl (by decide) (by decide) h
theorem XR.eq_dKn {p q : Kn} (h : k (.bl (decide (p = q))) M) : XR K (rEqU K) (dKn p) (dKn q) M k := by
  rw [← eqv_dKn] at h
  exact XR.eqD (n := 2) (m := 2) .self .self rfl rfl (by decide) (by decide) h
end
/-- lists of encodings -/
theorem pyAll_map {α : Type} (e : α → D) : ∀ xs : List α, pyAll (xs.map e) = xs.map fun x => (e x).py
  | [] => rfl
  | x :: xs => by
    rw [List.map_cons, List.map_cons, pyAll, pyAll_map e xs]
theorem map_inj {α β : Type} {f : α → β} (hf : ∀ a b, f a = f b → a = b) : ∀ {xs ys : List α}, xs.map f = ys.map f → xs = ys
  | [], [], _ => rfl
  | [], _ :: _, h => by simp at h
  | _ :: _, [], h => by simp at h
  | x :: xs, y :: ys, h => by
    rw [List.map_cons, List.map_cons] at h
    injection h with h1 h2
    rw [hf _ _ h1, map_inj hf h2]
theorem noblAll_map {α : Type} {e : α → D} (h : ∀ x, nobl (e x).py = true) : ∀ xs : List α, noblAll (pyAll (xs.map e)) = true
  | [] => rfl
  | x :: xs => by
    rw [List.map_cons, pyAll, noblAll, h x, noblAll_map h xs]
    rfl
theorem okD_map {α : Type} {e : α → D} {n : Nat} (h : ∀ x, okD n (e x) = true) (xs : List α) : (xs.map e).all (okD n) = true := by
  rw [List.all_eq_true]
  intro d hd
  obtain ⟨x, _, rfl⟩ := List.mem_map.mp hd
  exact h x
open Classical in
theorem eqv_maps {α : Type} {e : α → D} (h : ∀ x, nobl (e x).py = true) (hi : ∀ a b, (e a).py = (e b).py → a = b) (xs ys : List α) : PyData.eqvAll (pyAll (xs.map e)) (pyAll (ys.map e)) = decide (xs = ys) := by
  refine bool_iff ?_
  rw [eqv_iffs _ _ (noblAll_map h xs) (noblAll_map h ys), decide_eq_true_eq, pyAll_map, pyAll_map]
  exact ⟨fun q => map_inj hi q, fun q => by rw [q]⟩
/-- ascending times -/
def Asc (ks : List Kn) : Prop := ∀ (i : Nat) a b, ks[i]? = some a → ks[i + 1]? = some b → a.1 < b.1
def slopesI : List Kn → List Rat
  | a :: b :: r => (b.2 - a.2) / (b.1 - a.1) :: slopesI (b :: r)
  | _ => []
def slopes (ks : List Kn) : List Rat := slopesI ks ++ [0]
theorem slopesI_len : ∀ ks : List Kn, (slopesI ks).length = ks.length - 1
  | [] => rfl
  | [_] => rfl
  | a :: b :: r => by
    show (slopesI (b :: r)).length + 1 = r.length + 1 + 1 - 1
    rw [slopesI_len (b :: r)]
    show r.length + 1 - 1 + 1 = _
    omega
theorem slopesI_get : ∀ (ks : List Kn) (i : Nat) (a b : Kn), ks[i]? = some a → ks[i + 1]? = some b → (slopesI ks)[i]? = some ((b.2 - a.2) / (b.1 - a.1))
  | [], _, _, _, h, _ => by simp at h
  | [_], 0, _, _, _, h => by simp at h
  | [_], i + 1, _, _, h, _ => by simp at h
  | x :: y :: r, 0, a, b, h, h2 => by
    have e1 : x = a := Option.some.inj h
    have e2 : y = b := Option.some.inj h2
    subst e1 e2
    rfl
  | x :: y :: r, i + 1, a, b, h, h2 => slopesI_get (y :: r) i a b h h2
theorem slopes_len {ks : List Kn} (h : ks ≠ []) : (slopes ks).length = ks.length := by
  unfold slopes
  rw [List.length_append, slopesI_len]
  have : 0 < ks.length := List.length_pos_iff.mpr h
  show _ - 1 + 1 = _
  omega
def turnsAt (ks : List Kn) (i : Nat) : Option Kn := if (slopes ks)[i + 1]? = (slopes ks)[i]? then none else ks[i + 1]?
def turns (ks : List Kn) : List Kn := ks.take 1 ++ (List.range (ks.length - 1)).filterMap (turnsAt ks)
def dTab (C : Addr) (ks : List Kn) : D := .ins C [("points", .tup (ks.map dKn)), ("turns", .tup ((turns ks).map dKn))]
/-- the knots' sizes -/
def BKs (n : Nat) (ks : List Kn) : Prop := ∀ k ∈ ks, BQ n k.1 ∧ BQ n k.2
theorem BKs.get {n : Nat} {ks : List Kn} (h : BKs n ks) {i : Nat} {a : Kn} (e : ks[i]? = some a) : BQ n a.1 ∧ BQ n a.2 := h a (List.mem_of_getElem? e)
theorem cutD_from {α : Type} (xs : List α) (n : Nat) : cutD xs (some (n : Int)) none = xs.drop n := by
  unfold cutD
  rw [HT.sIx_nat, HT.sIx_none]
  by_cases h : n ≤ xs.length
  · rw [Nat.min_eq_left h]
    exact List.take_of_length_le (by rw [List.length_drop]; omega)
  · rw [Nat.min_eq_right (by omega), List.drop_of_length_le (Nat.le_refl _), List.drop_of_length_le (by omega)]
    simp
theorem cutD_to {α : Type} (xs : List α) (n : Nat) : cutD xs none (some (n : Int)) = xs.take n := by
  unfold cutD
  rw [HT.sIx_nat, HT.sIx_none, List.drop_zero, Nat.sub_zero, List.take_eq_take_iff]
  omega
theorem cutD_tail {α : Type} (xs : List α) : cutD xs (some 1) none = xs.drop 1 := cutD_from xs 1
theorem cutD_head {α : Type} (xs : List α) : cutD xs none (some 1) = xs.take 1 := cutD_to xs 1
theorem map_get {α : Type} {e : α → D} {xs : List α} {i : Nat} {d : D} (h : (xs.map e)[i]? = some d) : ∃ x, xs[i]? = some x ∧ d = e x := by
  rw [List.getElem?_map] at h
  obtain ⟨x, h1, h2⟩ := Option.map_eq_some_iff.mp h
  exact ⟨x, h1, h2.symm⟩
theorem get_map {α : Type} {e : α → D} {xs : List α} {i : Nat} {x : α} (h : xs[i]? = some x) : (xs.map e)[i]? = some (e x) := by
  rw [List.getElem?_map, h]
  rfl
theorem at_nat {α : Type} {xs : List α} {z : Int} {j : Nat} {x : α} (e : z = (j : Int)) (h : xs[j]? = some x) : L2.atI xs z = some x := by
  rw [e]
  exact L2.atI_nat h
end DL
/-! ### the rules with the written part told -/
namespace DL
open PySem L2 PyProof.Rows
section
variable {X : Cx} {K : PySem.W.Frag}
theorem op_addK (h : X.K = K) : OpR X (binaryOp .Add) (rAddU K) := by subst h; exact op_addU
theorem op_eqK (h : X.K = K) (hu : X.A.units + 64 < cLine) : OpR X (compareOp .Eq) (rEqU K) := by subst h; exact op_eqU hu
theorem op_neK (h : X.K = K) (hu : X.A.units + 64 < cLine) : OpR X (compareOp .NotEq) (rNeU K) := by subst h; exact op_neU hu
theorem op_inK (h : X.K = K) (hu : X.A.units + 65 < cLine) : OpR X (compareOp .In) (rInV K) := by subst h; exact op_inV hu
theorem op_niK (h : X.K = K) (hu : X.A.units + 65 < cLine) : OpR X (compareOp .NotIn) (rNiV K) := by subst h; exact op_niV hu
theorem ix_K (h : X.K = K) : IxR X (rIx K) := by subst h; exact ix_seq
theorem sl_K (h : X.K = K) : SlR X (rSlU K) := by subst h; exact sl_U
theorem cr_lenK (h : X.K = K) : CallR X (.builtin "len") (rLenU K) := by subst h; exact cr_len
theorem cr_tupK (h : X.K = K) : CallR X (.type "tuple") (rTupOf K) := by subst h; exact cr_tup
theorem cr_lstK (h : X.K = K) : CallR X (.type "list") (rLstOf K) := by subst h; exact cr_lst
theorem cr_isiK (h : X.K = K) : CallR X (.builtin "isinstance") (rIsi K) := by subst h; exact call_isi
theorem cr_isiTK (h : X.K = K) : CallR X (.builtin "isinstance") (rIsiT K) := by subst h; exact call_isiT
theorem pi_K (h : X.K = K) {tg l : Expr} {tl : TE} (hl : PE X l tl) : PI X tg l (iU K tl) := by subst h; exact pi_U hl
theorem pe_fldK (h : X.K = K) {e : Expr} {f : Str} {pos : Pos} {ta : TE} (he : PE X e ta) (hb : attributeBase e f X.env (eval e X.env) = eval e X.env) : PE X (.Attribute e f pos) (tFld K ta f) := by subst h; exact pe_fld he hb
theorem pe_conK (h : X.K = K) {e : Expr} {f : Str} {pos : Pos} {ta : TE} (he : PE X e ta) (hb : attributeBase e f X.env (eval e X.env) = eval e X.env) : PE X (.Attribute e f pos) (tCon K ta f) := by subst h; exact pe_con he hb
theorem ps_fldK (h : X.K = K) {o value : Expr} {f : Str} {pos pos' : Pos} {ta tv : TE} (ha : PE X o ta) (hv : PE X value tv) (hs : swapsWith value (some (.Attribute o f pos')) pos.line X.env = pure false) : PS X (.Assign [.Attribute o f pos'] value pos) (sFld K ta tv f) := by subst h; exact ps_fld ha hv hs
theorem pg_tupK (h : X.K = K) {es : List Expr} {k : Nat} {t : TGs} {n : Nat} {pos : Pos} (hc : X.calm = true) (hg : PGs X es t)
    (hn : (assignEach es X.env).length = n := by rfl) (hst : (assignEach es X.env).findIdx? (·.1) = none := by rfl) : PG X (.Tuple es k pos) (gTup K n t) := by
  subst h
  exact pg_tup hc hg hn hst
theorem pi_zipK (h : X.K = K) {e e2 : Expr} {ta : TA} {p pos tpos : Pos} {elts : List Expr} {kk : Nat} (hg : Gl X "zip") (hm : X.mg "zip" = none) (ha : PA X [e, e2] ta)
    (hs : starEach [e, e2] X.env = (false, eval e X.env) :: starEach [e2] X.env := by rfl) (hpl : (backTo pos (starEach [e2] X.env)).any (·.1) = false := by rfl) :
    PI X (.Tuple elts kk tpos) (.Call (.Name "zip" p) [e, e2] [] pos) (RZ.iZipA K ta) := by subst h; exact RZ.pi_zipA hg hm ha hs hpl
theorem pi_enumK (h : X.K = K) {e : Expr} {ta : TA} {p pos tpos : Pos} {elts : List Expr} {kk : Nat} (hg : Gl X "enumerate") (hm : X.mg "enumerate" = none) (ha : PA X [e] ta) (hs : starEach [e] X.env = [(false, eval e X.env)] := by rfl) :
    PI X (.Tuple elts kk tpos) (.Call (.Name "enumerate" p) [e] [] pos) (iEnum K ta) := by subst h; exact pi_enum hg hm ha hs
theorem pe_splitD {o e : Expr} {to te : TE} {apos pos : Pos} (ho : PE X o to) (he : PE X e te) (hs : starEach [e] X.env = [(false, eval e X.env)] := by rfl) (hbase : attributeBase o "split" X.env (eval o X.env) = eval o X.env := by rfl) (hline : (apos.endLine == pos.line) = true := by rfl) :
    PE X (.Call (.Attribute o "split" apos) [e] [] pos) (tM1 rSplit to te) := pe_split ho he hs hbase hline
theorem pe_joinK (h : X.K = K) {o e : Expr} {to te : TE} {apos pos : Pos} (ho : PE X o to) (he : PE X e te) (hs : starEach [e] X.env = [(false, eval e X.env)] := by rfl) (hbase : attributeBase o "join" X.env (eval o X.env) = eval o X.env := by rfl) (hline : (apos.endLine == pos.line) = true := by rfl) :
    PE X (.Call (.Attribute o "join" apos) [e] [] pos) (tM1 (rJoin K) to te) := by subst h; exact pe_join ho he hs hbase hline
theorem pe_bmK (h : X.K = K) {o e : Expr} {es : List Expr} {to : TE} {t : TA} {name : Str} {apos cpos : Pos} {T id : String} {r : V → List V → Hp → VK → Prop} (pa : PlainAttrs T) (slot : Slot T name id) (hty : typeOf (.builtin id) = pure (.type "method_descriptor")) (hm : MtR X id r) (ho : PE X o to) (ha : PA X (e :: es) t)
    (hbase : attributeBase o name X.env (eval o X.env) = eval o X.env := by rfl)
    (hfew : ((backTo cpos (starEach (e :: es) X.env)).all (fun x => !x.1) && (backToKw cpos (keywordEach [] X.env)).all (fun x => x.1.isSome)
      && decide ((e :: es).length + ([] : List Keyword).length + (if ([] : List Keyword).isEmpty then 0 else 1) < 30)) = true := by rfl)
    (hline : (apos.endLine == cpos.line) = true := by rfl) (hs : starEach (e :: es) X.env = (false, eval e X.env) :: starEach es X.env := by rfl) (hplain : (backTo cpos (starEach es X.env)).any (·.1) = false := by rfl) :
    PE X (.Call (.Attribute o name apos) (e :: es) [] cpos) (tBM K T r to t) := by subst h; exact pe_bm pa slot hty hm ho ha hbase hfew hline hs hplain
theorem pe_bm0K (h : X.K = K) {o : Expr} {to : TE} {name : Str} {apos cpos : Pos} {T id : String} {r : V → List V → Hp → VK → Prop} (pa : PlainAttrs T) (slot : Slot T name id) (hty : typeOf (.builtin id) = pure (.type "method_descriptor")) (hm : MtR X id r) (ho : PE X o to)
    (hbase : attributeBase o name X.env (eval o X.env) = eval o X.env := by rfl) (hline : (apos.endLine == cpos.line) = true := by rfl) : PE X (.Call (.Attribute o name apos) [] [] cpos) (tBM0 K T r to) := by subst h; exact pe_bm0 pa slot hty hm ho hbase hline
end
end DL

namespace DL
open PySem PySem.Spec PyProof.Rows L2

/-! ### == of two objects of one class with an own __eq__ -/
def rOwn (C : Addr) (sp : Sp) (E : XK) : R2 := fun x y H Q => (∃ a d fs, x = .ref a ∧ H a = some (.ins C d fs)) ∧ (∃ b d fs, y = .ref b ∧ H b = some (.ins C d fs)) ∧ sp [x, y] H (fun v H' => (∃ b, v = .bl b) ∧ Q v H') E
theorem op_own {X : Cx} {CX : CXT} {C f : Addr} {fd : FuncData} {ps : List Str} {sp : Sp} {E : XK} {n : Nat} (F : FnOk X.prog X.w X.K X.mg X.base CX n f fd ps sp)
    (hr : Room n X.A) (hs : Meth X.K C "__eq__" f) (hb : Binds X.K fd ps []) (hx : Passes CX X E) : OpR X (compareOp .Eq) (rOwn C sp E) := by
  intro pins s σ H x y v u Q I rx ry hq
  obtain ⟨⟨a, dx, fs, rfl, ha⟩, ⟨b, dy, gs, rfl, hb'⟩, hsp⟩ := hq
  show wpAny (model X.prog X.w) X.A (richCompare .Eq v u) (EP X pins σ Q) X.xe s
  cases rx
  cases ry
  obtain ⟨mA, J, _⟩ := ins_get I.hok ha
  obtain ⟨mB, J', _⟩ := ins_get I.hok hb'
  obtain ⟨od, J, _⟩ := J.look
  obtain ⟨od', J', _⟩ := J'.look
  obtain ⟨m, hF⟩ := I.fr
  refine PySem.W.cmp_K (op := .Eq) (tb := .ref C) hr.units0 hF I.ok.mod.kin J J'.type (by simp [PySem.W.notFirst]) hs.at_ hs.fn ?_
  have hl := F.len _ _ _ _ hsp
  have r2 : Vals [V.ref a, V.ref b] [Value.ref a, Value.ref b] := .cons rfl (.cons rfl .nil)
  refine wpAny_call (codeAny_mono (F.run X.A X.stack s H ⟨[.ref a, .ref b], []⟩ [.ref a, .ref b] [.ref a, .ref b] _ E hr I.env0 (by
    have := hb s [.ref a, .ref b] I.kIn (by simpa using hl)
    simpa using this) r2 hsp) fun r s' hq => ?_)
  cases r with
  | error e => exact hx pins σ H s e s' I hq
  | ok fl =>
    cases fl with
    | ret w =>
      have q := I.after hq
      obtain ⟨z, H', I', rz, ⟨c, rfl⟩, q⟩ := q
      cases rz
      exact ⟨.bl c, H', I', rfl, q⟩
    | next => exact False.elim hq
    | brk => exact False.elim hq
    | cont => exact False.elim hq
theorem XR.own {K : PySem.W.Frag} {C : Addr} {p : PSp} {E : XK} {x y : D} {M : Mem} {k : D → Mem → Prop} {fs gs : List (Str × D)} (mo : MonoP p) (hx : InAt M x C fs) (hy : InAt M y C gs)
    (h : p [x, y] (fun r => (∃ b, r = .bl b) ∧ k r M) (fun _ _ => False)) : XR K (rOwn C (spD K 2 (pur p)) E) x y M k := fun F H v u s r1 r2 Q g => by
  obtain ⟨a, dx, vs, rfl, h1, _⟩ := hx.get s r1
  obtain ⟨b, dy, us, rfl, h2, _⟩ := hy.get s r2
  have hM : M ++ [] = M := List.append_nil M
  refine ⟨⟨a, dx, vs, rfl, h1⟩, ⟨b, dy, us, rfl, h2⟩, ?_⟩
  refine spD_use (Mr := M) (Mc := []) (k := fun r M' => (∃ b, r = .bl b) ∧ k r M') (x := fun _ _ _ => False) (by rw [hM]; exact s) (.cons r1 (.cons r2 .nil)) rfl ⟨rfl, ?_⟩ ?_ ?_ (mo.pur _ _)
  · refine mo _ _ _ _ _ (fun r q => ?_) (fun c f q => q) h
    show _ ∧ k r (M ++ [])
    rw [hM]
    exact q
  · rw [hM]
    intro d M' w F' H' n rr q
    obtain ⟨⟨b, rfl⟩, q⟩ := q
    cases rr
    exact ⟨⟨b, rfl⟩, g _ M' _ F' H' n (.bl b) q⟩
  · exact fun _ _ _ _ _ _ _ z => z.elim
theorem kbnN {K : PySem.W.Frag} {x qual : Str} {params : Arguments} {body : List Stmt} {scope : Scope} {kws : List (Str × V)} {f : Addr} {fd : FuncData} {ps : List Str} {n : Nat} {ks : List Str} (F : FunD K x qual params body scope [] kws f fd)
    (h : ∀ (kV doc pm : Value) (an : Option Addr) (cdv ct : Value) (us ws : List Value), us.length = n → ws.length = ks.length → bindArgs (PySem.W.fnOf x qual params body scope .none kV doc pm an cdv ct) ⟨us, ks.zip ws⟩ = pure (ps.zip (us ++ ws))) :
    KBn K fd ps n ks (fun us ws => us ++ ws) (fun us ws => us ++ ws) := by
  obtain ⟨oc, od, dV, kV, doc, pm, an, cdv, ct, osl, rfl, lk, hcd, hD, hK⟩ := F.ex
  rcases hD with ⟨_, rfl⟩ | ⟨e, _⟩
  · exact ⟨fun s us ws _ l1 l2 => .of_eq (h kV doc pm an cdv ct us ws l1 l2), fun r1 r2 => r1.append r2⟩
  · exact absurd rfl e
end DL

namespace DL
open PySem PySem.Spec PyProof.Rows L2 SX TL

/-! ### texts as lists of codes -/
def spl1 (c : Nat) (l : List Nat) : List (List Nat) := TL.spl [c] 0 [] l
theorem split_c {c : Nat} (h : c < 256) (l : List Nat) : Txt.split (S l) (S [c]) = (spl1 c l).map S := SX.split_S (by simp) (by simp [h])
theorem spl1_two {c : Nat} {p : List Nat} (q : List Nat) (h : c ∉ p) : spl1 c (p ++ c :: q) = p :: spl1 c q := by
  have := TL.spl_part1 (s := c) (S := []) (p := p) (rest := q) (acc := []) h
  simpa [spl1] using this
theorem spl1_one {c : Nat} {p : List Nat} (h : c ∉ p) : spl1 c p = [p] := by
  have := TL.spl_last1 (s := c) (S := []) (p := p) (acc := []) h
  simpa [spl1] using this
theorem spl1_join {c : Nat} {ps : List (List Nat)} (hne : ps ≠ []) (h : ∀ p ∈ ps, c ∉ p) : spl1 c (TL.joinL [c] ps) = ps := SX.spl_join hne h
theorem splA (c : Nat) : ∀ (l acc : List Nat), TL.spl [c] 0 acc l ≠ [] ∧ (TL.spl [c] 0 acc l).length ≤ l.length + 1 ∧ ∀ p ∈ TL.spl [c] 0 acc l, p.length ≤ acc.length + l.length
  | [], acc => by
    rw [TL.spl_nil]
    exact ⟨by simp, by simp, by simp⟩
  | d :: l, acc => by
    cases e : TL.pre [c] (d :: l)
    · rw [TL.spl_miss e]
      obtain ⟨h1, h2, h3⟩ := splA c l (acc ++ [d])
      refine ⟨h1, ?_, fun p hp => ?_⟩
      · rw [List.length_cons]
        omega
      · have := h3 p hp
        rw [List.length_append] at this
        simp only [List.length_cons, List.length_nil] at this ⊢
        omega
    · rw [TL.spl_hit e]
      obtain ⟨h1, h2, h3⟩ := splA c l []
      refine ⟨by simp, ?_, fun p hp => ?_⟩
      · simp only [List.length_cons, List.length_nil] at h2 ⊢
        simpa using h2
      · rcases List.mem_cons.mp hp with rfl | hp
        · omega
        · have := h3 p hp
          simp only [List.length_cons, List.length_nil] at this ⊢
          omega
theorem spl1_ne (c : Nat) (l : List Nat) : spl1 c l ≠ [] := (splA c l []).1
theorem spl1_len (c : Nat) (l : List Nat) : (spl1 c l).length ≤ l.length + 1 := (splA c l []).2.1
theorem spl1_mem {c : Nat} {l p : List Nat} (h : p ∈ spl1 c l) : p.length ≤ l.length := by
  have := (splA c l []).2.2 p h
  simpa using this

/-! ### numbers -/
def digs (l : List Nat) : Bool := l.all fun c => decide (48 ≤ c) && decide (c ≤ 57)
def numOf (l : List Nat) : Option Nat := if 1 ≤ l.length ∧ l.length ≤ 60 ∧ digs l = true then if l.head? = some 48 ∧ l ≠ [48] then none else some (NumText.digitsVal l) else none
def intL (i : Int) : List Nat := if i < 0 then 45 :: TL.numL i.natAbs else TL.numL i.natAbs
theorem toString_S (i : Int) : Str.ofString (toString i) = S (intL i) := by
  unfold intL
  cases i with
  | ofNat n =>
    rw [if_neg (by simp)]
    exact SX.num_S n
  | negSucc n =>
    rw [if_pos (Int.negSucc_lt_zero n)]
    have e : (toString (Int.negSucc n) : String) = "-" ++ toString (((n + 1 : Nat)) : Int) := rfl
    refine TL.ext_tl ?_
    rw [TL.tl_ofString, e, String.toList_append, List.map_append]
    have h2 := TL.tl_num (n + 1)
    rw [TL.tl_ofString] at h2
    rw [h2]
    rfl
theorem numL_head {n : Nat} : 0 < n → (TL.numL n).head? ≠ some 48 := by
  induction n using Nat.strongRecOn with
  | _ n ih =>
    intro h0
    by_cases h : n < 10
    · rw [TL.numL_lt h]
      simp
      omega
    · rw [TL.numL_step (by omega)]
      have := ih (n / 10) (by omega) (by omega)
      cases e : TL.numL (n / 10) with
      | nil => exact absurd e (TL.numL_ne _)
      | cons a l =>
        rw [e] at this
        simpa using this
theorem digs_numL (n : Nat) : digs (TL.numL n) = true := by
  have := TL.numL_digits n
  rw [digs, List.all_eq_true]
  intro c hc
  have h := this c hc
  simp at h ⊢
  exact h
theorem numOf_numL {n : Nat} (h : n < 10 ^ 60) : numOf (TL.numL n) = some n := by
  have h1 : (TL.numL n).length ≤ 60 := TL.numL_len (by decide) h
  have h2 : 1 ≤ (TL.numL n).length := List.length_pos_iff.mpr (TL.numL_ne n)
  unfold numOf
  rw [if_pos ⟨h2, h1, digs_numL n⟩]
  have h3 : ¬ ((TL.numL n).head? = some 48 ∧ TL.numL n ≠ [48]) := by
    rintro ⟨ha, hb⟩
    by_cases h0 : 0 < n
    · exact numL_head h0 ha
    · have : n = 0 := by omega
      subst this
      exact hb rfl
  rw [if_neg h3, TL.numL_val]
theorem digitsVal_le : ∀ l : List Nat, digs l = true → ∀ a, l.foldl (fun acc c => acc * 10 + (c - 48)) a < (a + 1) * 10 ^ l.length
  | [], _, a => by simp
  | c :: l, h, a => by
    rw [digs, List.all_cons, Bool.and_eq_true] at h
    have h1 := digitsVal_le l h.2 (a * 10 + (c - 48))
    have hc : 48 ≤ c ∧ c ≤ 57 := by simpa using h.1
    rw [List.foldl_cons, List.length_cons, Nat.pow_succ]
    refine Nat.lt_of_lt_of_le h1 ?_
    have : (a * 10 + (c - 48) + 1) ≤ (a + 1) * 10 := by omega
    calc (a * 10 + (c - 48) + 1) * 10 ^ l.length ≤ ((a + 1) * 10) * 10 ^ l.length := Nat.mul_le_mul_right _ this
      _ = (a + 1) * (10 ^ l.length * 10) := by rw [Nat.mul_assoc, Nat.mul_comm 10]
theorem numOf_lt {l : List Nat} {n : Nat} (h : numOf l = some n) : n < 10 ^ 60 := by
  unfold numOf at h
  split at h
  · rename_i hc
    split at h
    · cases h
    · cases h
      have := digitsVal_le l hc.2.2 0
      refine Nat.lt_of_lt_of_le this ?_
      rw [Nat.zero_add, Nat.one_mul]
      exact Nat.pow_le_pow_right (by decide) hc.2.1
  · cases h
theorem numOf_B {l : List Nat} {n : Nat} (h : numOf l = some n) : B 200 (n : Int) := by
  have := numOf_lt h
  show (n : Int).natAbs < 2 ^ 200
  have e : (10 : Nat) ^ 60 < 2 ^ 200 := by decide
  omega

/-! ### fractions -/
def isNeg (l : List Nat) : Bool := decide (l.head? = some 45)
def bareOf (l : List Nat) : List Nat := if isNeg l then l.tail else l
def fracN (neg : Bool) : List (Option Nat) → Option Rat
  | [some n] => if neg = true ∧ n = 0 then none else some (Rat.divInt (if neg then -(n : Int) else n) 1)
  | [some n, some d] => if d < 2 then none else if neg = true ∧ n = 0 then none else if Int.gcd (if neg then -(n : Int) else n) d = 1 then some (Rat.divInt (if neg then -(n : Int) else n) d) else none
  | _ => none
def fracOf (l : List Nat) : Option Rat := fracN (isNeg l) ((spl1 47 (bareOf l)).map numOf)
def fracL (q : Rat) : List Nat := if q.den = 1 then intL q.num else intL q.num ++ 47 :: TL.numL q.den
theorem numL_notin {n c : Nat} (h : c < 48 ∨ 57 < c) : c ∉ TL.numL n := TL.numL_free h
theorem intL_free {i : Int} {c : Nat} (h : c ≠ 45) (h2 : c < 48 ∨ 57 < c) : c ∉ intL i := by
  unfold intL
  split
  · simp [h, numL_notin h2]
  · exact numL_notin h2
theorem fracL_free {q : Rat} {c : Nat} (h : c ≠ 45) (h1 : c ≠ 47) (h2 : c < 48 ∨ 57 < c) : c ∉ fracL q := by
  unfold fracL
  split
  · exact intL_free h h2
  · simp [h1, numL_notin h2, intL_free (i := q.num) h h2]
theorem isNeg_numL (n : Nat) (r : List Nat) : isNeg (TL.numL n ++ r) = false := by
  cases e : TL.numL n with
  | nil => exact absurd e (TL.numL_ne _)
  | cons a l =>
    have hm : a ∈ TL.numL n := by rw [e]; exact List.mem_cons_self ..
    have : a ≠ 45 := fun z => numL_notin (n := n) (c := 45) (Or.inl (by decide)) (z ▸ hm)
    simp [isNeg, this]
theorem fracOf_fracL {q : Rat} (hn : q.num.natAbs < 10 ^ 60) (hd : q.den < 10 ^ 60) : fracOf (fracL q) = some q := by
  have key : ∀ r : List Nat, (q.num < 0 → isNeg (intL q.num ++ r) = true ∧ bareOf (intL q.num ++ r) = TL.numL q.num.natAbs ++ r) ∧ (¬ q.num < 0 → isNeg (intL q.num ++ r) = false ∧ bareOf (intL q.num ++ r) = TL.numL q.num.natAbs ++ r) := by
    intro r
    refine ⟨fun h => ?_, fun h => ?_⟩
    · unfold intL
      rw [if_pos h]
      exact ⟨rfl, rfl⟩
    · unfold intL
      rw [if_neg h]
      refine ⟨isNeg_numL _ _, ?_⟩
      unfold bareOf
      rw [isNeg_numL]
      rfl
  have hneg : ∃ neg : Bool, (neg = true ↔ q.num < 0) ∧ ∀ r, isNeg (intL q.num ++ r) = neg ∧ bareOf (intL q.num ++ r) = TL.numL q.num.natAbs ++ r := by
    by_cases h : q.num < 0
    · exact ⟨true, by simp [h], fun r => (key r).1 h⟩
    · exact ⟨false, by simp [h], fun r => (key r).2 h⟩
  obtain ⟨neg, hi, hr⟩ := hneg
  have hval : (if neg then -(q.num.natAbs : Int) else (q.num.natAbs : Int)) = q.num := by
    cases neg
    · have : ¬ q.num < 0 := fun z => Bool.noConfusion (hi.mpr z)
      simp
      omega
    · have := hi.mp rfl
      simp
      omega
  have h0 : ¬ (neg = true ∧ q.num.natAbs = 0) := by
    rintro ⟨a, b⟩
    have := hi.mp a
    omega
  unfold fracL fracOf
  split
  · rename_i h1
    have h := hr []
    rw [List.append_nil, List.append_nil] at h
    rw [h.1, h.2, spl1_one (numL_notin (by decide)), List.map_cons, List.map_nil, numOf_numL hn]
    show (if _ then _ else _) = _
    rw [if_neg h0, hval]
    have e : Rat.divInt q.num 1 = Rat.divInt q.num (q.den : Int) := by rw [h1]; rfl
    rw [e, Rat.num_divInt_den]
  · rename_i h1
    have h := hr (47 :: TL.numL q.den)
    rw [h.1, h.2, spl1_two _ (numL_notin (by decide)), spl1_one (numL_notin (by decide)), List.map_cons, List.map_cons, List.map_nil, numOf_numL hn, numOf_numL hd]
    show (if _ then _ else _) = _
    have hp := den_pos q
    rw [if_neg (by omega), if_neg h0, hval, if_pos (gcd_num_den q), Rat.num_divInt_den]

def knotOf (l : List Nat) : Option Kn := match (spl1 58 l).map fracOf with
  | [some a, some b] => some (a, b)
  | _ => none
def knotL (k : Kn) : List Nat := fracL k.1 ++ 58 :: fracL k.2
/-- numerators and denominators of at most 60 digits -/
def Short (q : Rat) : Prop := q.num.natAbs < 10 ^ 60 ∧ q.den < 10 ^ 60
theorem knotOf_knotL {k : Kn} (h1 : Short k.1) (h2 : Short k.2) : knotOf (knotL k) = some k := by
  unfold knotOf knotL
  rw [spl1_two _ (fracL_free (by decide) (by decide) (by decide)), spl1_one (fracL_free (by decide) (by decide) (by decide)), List.map_cons, List.map_cons, List.map_nil, fracOf_fracL h1.1 h1.2, fracOf_fracL h2.1 h2.2]
theorem knotL_free {k : Kn} {c : Nat} (h : c ≠ 45) (h1 : c ≠ 47) (h3 : c ≠ 58) (h2 : c < 48 ∨ 57 < c) : c ∉ knotL k := by
  unfold knotL
  simp [h3, fracL_free (q := k.1) h h1 h2, fracL_free (q := k.2) h h1 h2]
def allSome {α : Type} : List (Option α) → Option (List α)
  | [] => some []
  | none :: _ => none
  | some a :: r => (allSome r).map (a :: ·)
theorem allSome_map {α : Type} (xs : List α) : allSome (xs.map some) = some xs := by
  induction xs with
  | nil => rfl
  | cons a r ih => rw [List.map_cons, allSome, ih]; rfl
theorem allSome_iff {α : Type} : ∀ {xs : List (Option α)} {ys : List α}, allSome xs = some ys ↔ xs = ys.map some
  | [], ys => by
    cases ys <;> simp [allSome]
  | none :: r, ys => by
    cases ys <;> simp [allSome]
  | some a :: r, ys => by
    rw [allSome, Option.map_eq_some_iff]
    refine ⟨fun ⟨z, h1, h2⟩ => ?_, fun h => ?_⟩
    · rw [← h2, List.map_cons, allSome_iff.mp h1]
    · cases ys with
      | nil => simp at h
      | cons b ys =>
        rw [List.map_cons] at h
        injection h with h1 h2
        injection h1 with h1
        exact ⟨ys, allSome_iff.mpr h2, by rw [h1]⟩
theorem allSome_none {α : Type} : ∀ {xs : List (Option α)}, allSome xs = none ↔ none ∈ xs
  | [] => by simp [allSome]
  | none :: r => by simp [allSome]
  | some a :: r => by
    rw [allSome, Option.map_eq_none_iff, allSome_none]
    simp
def knotsOf (ws : List (List Nat)) : Option (List Kn) := if ws = [] then none else allSome (ws.map knotOf)
def tabL (ks : List Kn) : List Nat := TL.joinL [32] (ks.map knotL)
theorem knotsOf_tabL {ks : List Kn} (hne : ks ≠ []) (h : ∀ k ∈ ks, Short k.1 ∧ Short k.2) : knotsOf (spl1 32 (tabL ks)) = some ks := by
  unfold tabL
  rw [spl1_join (by simpa using hne) (by
    intro p hp
    obtain ⟨k, _, rfl⟩ := List.mem_map.mp hp
    exact knotL_free (by decide) (by decide) (by decide) (by decide))]
  unfold knotsOf
  rw [if_neg (by simpa using hne), List.map_map]
  have e : ks.map (knotOf ∘ knotL) = ks.map some := List.map_congr_left fun k hk => knotOf_knotL (h k hk).1 (h k hk).2
  rw [e, allSome_map]
end DL
namespace DL
open PySem PySem.Spec PyProof.Rows L2 SX TL
theorem intL_len {i : Int} (h : i.natAbs < 10 ^ 60) : (intL i).length ≤ 61 := by
  have := TL.numL_len (k := 60) (by decide) h
  unfold intL
  split
  · rw [List.length_cons]; omega
  · omega
theorem fracL_len {q : Rat} (h : Short q) : (fracL q).length ≤ 122 := by
  have h1 := intL_len h.1
  have h2 := TL.numL_len (k := 60) (by decide) h.2
  unfold fracL
  split
  · omega
  · rw [List.length_append, List.length_cons]; omega
theorem knotL_len {k : Kn} (h1 : Short k.1) (h2 : Short k.2) : (knotL k).length ≤ 245 := by
  have h1 := fracL_len h1
  have h2 := fracL_len h2
  unfold knotL
  rw [List.length_append, List.length_cons]; omega
theorem joinL_len (c : Nat) : ∀ ps : List (List Nat), (TL.joinL [c] ps).length ≤ (ps.map (·.length)).sum + ps.length
  | [] => by simp [TL.joinL]
  | [p] => by simp [TL.joinL]
  | p :: q :: ps => by
    have := joinL_len c (q :: ps)
    simp only [TL.joinL, List.map_cons, List.sum_cons, List.length_cons, List.length_append, List.length_nil] at this ⊢
    omega
theorem sum_le {n : Nat} : ∀ {ps : List Nat}, (∀ p ∈ ps, p ≤ n) → ps.sum ≤ n * ps.length
  | [], _ => by simp
  | p :: ps, h => by
    have h1 := h p (List.mem_cons_self ..)
    have h2 := sum_le (ps := ps) fun q hq => h q (List.mem_cons_of_mem _ hq)
    rw [List.sum_cons, List.length_cons, Nat.mul_succ]
    omega
theorem tabL_len {ks : List Kn} (h : ∀ k ∈ ks, Short k.1 ∧ Short k.2) : (tabL ks).length ≤ 246 * ks.length := by
  have h1 := joinL_len 32 (ks.map knotL)
  have h2 : ((ks.map knotL).map (·.length)).sum ≤ 245 * ((ks.map knotL).map (·.length)).length := sum_le fun p hp => by
    obtain ⟨q, hq, rfl⟩ := List.mem_map.mp hp
    obtain ⟨k, hk, rfl⟩ := List.mem_map.mp hq
    exact knotL_len (h k hk).1 (h k hk).2
  rw [List.length_map, List.length_map] at h2
  rw [List.length_map] at h1
  unfold tabL
  omega
theorem Short.B {q : Rat} (h : Short q) : BQ 200 q := by
  have e : (10 : Nat) ^ 60 < 2 ^ 200 := by decide
  have h1 := h.1
  have h2 := h.2
  refine ⟨?_, ?_⟩
  · show q.num.natAbs < 2 ^ 200
    omega
  · show (q.den : Int).natAbs < 2 ^ 200
    omega
end DL
namespace DL
open PySem PySem.Spec PyProof.Rows L2 SX TL
section
variable {C : Cfg} {ds : DS} {M : Mem} {k : D → Mem → Prop} {te : TE}
open Classical in
theorem XE.lcE {wi : TI} {g : TG} {tt : TT} {vs : List Nat} {α : Type} (e : α → D) (f : α → Option D) (hi : ∀ a b, e a = e b → a = b) (h : XI C wi ds M fun xs M1 => ∃ ys : List α, xs = ys.map e ∧ ys.length ≤ 16000000 ∧
    (∀ y, y ∈ ys → XG C.nox g (e y) (dwipe ds vs) M1 vs fun ds2 M2 => XT C.nox tt ds2 M2 fun b M3 => (b = true → XE C.nox te ds2 M3 fun z M4 => f y = some z ∧ M4 = M1) ∧ (b = false → f y = none ∧ M3 = M1)) ∧
    k (.lst (ys.filterMap f)) M1) : XE C (tLc wi g tt te vs) ds M k := by
  have hf : ∀ y, (fun d : D => if h : ∃ a, e a = d then f h.choose else none) (e y) = f y := fun y => by
    have hx : ∃ a, e a = e y := ⟨y, rfl⟩
    show (if h : ∃ a, e a = e y then f h.choose else none) = f y
    rw [dif_pos hx, hi _ _ hx.choose_spec]
  refine XE.lc (fun d => if h : ∃ a, e a = d then f h.choose else none) fun F H σ s e' c R gR => h F H σ s e' c R fun xs M1 J F1 H1 n1 it h1 => gR xs M1 J F1 H1 n1 it ?_
  obtain ⟨ys, rfl, hl, hs, hk⟩ := h1
  refine ⟨by rw [List.length_map]; exact hl, fun x hx => ?_, ?_⟩
  · obtain ⟨y, hy, rfl⟩ := List.mem_map.mp hx
    have q := hs y hy
    have e3 : (if h : ∃ a, e a = e y then f h.choose else none) = f y := hf y
    rw [e3]
    exact q
  · have e2 : List.filterMap (fun d : D => if h : ∃ a, e a = d then f h.choose else none) (ys.map e) = ys.filterMap f := by
      rw [List.filterMap_map]
      exact congrArg (fun z => List.filterMap z ys) (funext hf)
    rw [e2]
    exact hk
theorem XE.lcMap {wi : TI} {g : TG} {vs : List Nat} {α : Type} (e : α → D) (f : α → D) (hi : ∀ a b, e a = e b → a = b) (h : XI C wi ds M fun xs M1 => ∃ ys : List α, xs = ys.map e ∧ ys.length ≤ 16000000 ∧
    (∀ y, y ∈ ys → XG C.nox g (e y) (dwipe ds vs) M1 vs fun ds2 M2 => XE C.nox te ds2 M2 fun z M4 => z = f y ∧ M4 = M1) ∧
    k (.lst (ys.map f)) M1) : XE C (tLc wi g tYes te vs) ds M k :=
  XE.lcE e (fun y => some (f y)) hi fun F H σ s e' c R gR => h F H σ s e' c R fun xs M1 J F1 H1 n1 it h1 => gR xs M1 J F1 H1 n1 it (by
    obtain ⟨ys, h1, h2, h3, h4⟩ := h1
    refine ⟨ys, h1, h2, fun y hy F H σ v s e c r Q g => h3 y hy F H σ v s e c r Q fun d M' σ' F' H' n e2 hl hw q => g d M' σ' F' H' n e2 hl hw ?_, ?_⟩
    · exact fun F H σ s e c Q g => g true _ _ _ (Nxt.refl s) ⟨fun _ F H σ s e c Q g => q F H σ s e c Q fun d M' v F' H' n r z => g d M' v F' H' n r ⟨by rw [z.1], z.2⟩, fun z => by cases z⟩
    · have e2 : ys.filterMap (fun y => some (f y)) = ys.map f := by simp
      rw [e2]
      exact h4)
end
end DL
namespace DL
open PySem PySem.Spec PyProof.Rows L2 SX TL
def dO {α : Type} (e : α → D) : Option α → D
  | none => .non
  | some a => e a
section
variable {K : PySem.W.Frag} {M : Mem} {k : D → Mem → Prop} {α : Type} {e : α → D} {n : Nat}
theorem dO_ok (h : ∀ a, okD n (e a) = true) (o : Option α) : okD n (dO e o) = true := by
  cases o with
  | none => cases n <;> rfl
  | some a => exact h a
theorem none_in (he : ∀ a, PyData.eqv (e a).py .none = false) : ∀ xs : List (Option α), ((pyAll (xs.map (dO e))).any fun z => PyData.eqv z .none) = xs.any Option.isNone
  | [] => rfl
  | none :: r => by
    rw [List.map_cons, pyAll, List.any_cons, List.any_cons]
    rfl
  | some a :: r => by
    rw [List.map_cons, pyAll, List.any_cons, List.any_cons, none_in he r]
    have : PyData.eqv (dO e (some a)).py .none = false := he a
    rw [this]
    rfl
theorem any_none : ∀ xs : List (Option α), xs.any Option.isNone = (allSome xs).isNone
  | [] => rfl
  | none :: r => rfl
  | some a :: r => by
    rw [List.any_cons, any_none r, allSome]
    cases allSome r <;> rfl
theorem XR.inO {y : D} {xs : List (Option α)} (hy : SqAt M y (xs.map (dO e))) (hok : ∀ a, okD n (e a) = true) (hn : n + 1 ≤ 64) (he : ∀ a, PyData.eqv (e a).py .none = false) (h : k (.bl (xs.any Option.isNone)) M) : XR K (rInV K) .non y M k := by
  rw [← none_in he] at h
  exact XR.inD (n := 0) (m := n + 1) .self hy rfl (okD_map (dO_ok hok) xs) (by decide) hn h
theorem XR.niO {y : D} {xs : List (Option α)} (hy : SqAt M y (xs.map (dO e))) (hok : ∀ a, okD n (e a) = true) (hn : n + 1 ≤ 64) (he : ∀ a, PyData.eqv (e a).py .none = false) (h : k (.bl (!xs.any Option.isNone)) M) : XR K (rNiV K) .non y M k := by
  rw [← none_in he] at h
  exact XR.niD (n := 0) (m := n + 1) .self hy rfl (okD_map (dO_ok hok) xs) (by decide) hn h
/-- is this list empty -/
theorem XR.ne_nil {xs : List D} {x : D} (hx : SeAt M x (.lst xs)) (ho : okD n (.lst xs) = true) (hn : n ≤ 64) {y : D} (hy : SeAt M y (.lst [])) (h : k (.bl (!decide (xs = []))) M) : XR K (rNeU K) x y M k := by
  refine XR.neD (n := n) (m := 1) hx hy ho rfl hn (by decide) ?_
  have e : PyData.eqv (D.lst xs).py (D.lst []).py = decide (xs = []) := by
    cases xs <;> rfl
  rw [e]
  exact h
theorem XR.ne_nilT {xs : List D} {x : D} (hx : SeAt M x (.tup xs)) (ho : okD n (.tup xs) = true) (hn : n ≤ 64) {y : D} (hy : SeAt M y (.tup [])) (h : k (.bl (!decide (xs = []))) M) : XR K (rNeU K) x y M k := by
  refine XR.neD (n := n) (m := 1) hx hy ho rfl hn (by decide) ?_
  have e : PyData.eqv (D.tup xs).py (D.tup []).py = decide (xs = []) := by
    cases xs <;> rfl
  rw [e]
  exact h
end
theorem cutS_head {l : List Nat} : cutS (S l) none (some 1) = S (l.take 1) := by
  rw [← sliceText_cut]
  exact SX.slice_to (i := 1) (by decide)
theorem cutS_tail {l : List Nat} : cutS (S l) (some 1) none = S (l.drop 1) := by
  rw [← sliceText_cut]
  exact SX.slice_from (i := 1) (by decide)
theorem S_eq {a b : List Nat} : decide (S a = S b) = decide (a = b) := by
  rw [decide_eq_decide]
  exact ⟨SX.S_inj, fun h => by rw [h]⟩
theorem digs_int {l : List Nat} {n : Nat} (h : numOf l = some n) : intText? (S l) = some (n : Int) := by
  unfold numOf at h
  split at h
  · rename_i hc
    split at h
    · cases h
    · cases h
      exact SX.int_S hc.2.2 (List.length_pos_iff.mp hc.1) (by omega)
  · cases h
end DL
namespace DL
open PySem SX
theorem lenS {a : List Nat} {n : Nat} (h : a.length ≤ n) : (S a).length ≤ n := Nat.le_trans (Nat.le_of_eq (SX.S_len a)) h
theorem cat1 (a : List Nat) : Str.empty ++ S a = S a := (SX.S_cat [] a).trans (by rw [List.nil_append])
theorem cat2 (a b : List Nat) : Str.empty ++ S a ++ S b = S (a ++ b) := by rw [cat1, SX.S_cat a b]
theorem cat3 (a b c : List Nat) : Str.empty ++ S a ++ S b ++ S c = S (a ++ (b ++ c)) := by rw [cat2, SX.S_cat (a ++ b) c, List.append_assoc]
end DL
namespace DL
open PySem SX
def lDigits : Str := "0123456789"
theorem dig_iff (c : Nat) : c ∈ lDigits.cps.toList ↔ 48 ≤ c ∧ c ≤ 57 := by
  have e : lDigits.cps.toList = [48,49,50,51,52,53,54,55,56,57] := rfl
  rw [e]
  simp only [List.mem_cons, List.not_mem_nil, or_false]
  omega
def badC (c : Nat) : Option D := if c ∈ lDigits.cps.toList then none else some (.str ⟨#[c]⟩)
theorem bad_nil (l : List Nat) : decide (l.filterMap badC = []) = digs l := by
  rw [Bool.eq_iff_iff, decide_eq_true_eq, digs, List.all_eq_true, List.filterMap_eq_nil_iff]
  refine forall_congr' fun c => forall_congr' fun _ => ?_
  unfold badC
  rw [Bool.and_eq_true, decide_eq_true_eq, decide_eq_true_eq, ← dig_iff]
  split <;> simp [*]
def Uni (l : List Nat) : Prop := ∀ c ∈ l, c < 0x110000
theorem bad_ok {l : List Nat} (hu : Uni l) : okD 1 (.lst (l.filterMap badC)) = true := by
  show (l.filterMap badC).all (okD 0) = true
  rw [List.all_eq_true]
  intro d hd
  obtain ⟨c, hc, h⟩ := List.mem_filterMap.mp hd
  unfold badC at h
  split at h
  · cases h
  · cases h
    have := hu c hc
    simpa [okD] using this
theorem mem_spl {c d : Nat} : ∀ (l acc : List Nat), ∀ p ∈ TL.spl [c] 0 acc l, d ∈ p → d ∈ acc ∨ d ∈ l
  | [], acc, p, hp, hd => by
    rw [TL.spl_nil] at hp
    rw [List.mem_singleton.mp hp] at hd
    exact .inl hd
  | e :: l, acc, p, hp, hd => by
    cases e1 : TL.pre [c] (e :: l)
    · rw [TL.spl_miss e1] at hp
      rcases mem_spl l _ p hp hd with h | h
      · rcases List.mem_append.mp h with h | h
        · exact .inl h
        · rw [List.mem_singleton.mp h]
          exact .inr (List.mem_cons_self ..)
      · exact .inr (List.mem_cons_of_mem _ h)
    · rw [TL.spl_hit e1] at hp
      rcases List.mem_cons.mp hp with rfl | hp
      · exact .inl hd
      · rcases mem_spl l _ p hp hd with h | h
        · cases h
        · exact .inr (List.mem_cons_of_mem _ h)
theorem Uni.spl {c : Nat} {l p : List Nat} (h : Uni l) (hp : p ∈ spl1 c l) : Uni p := fun d hd => by
  rcases mem_spl l [] p hp hd with z | z
  · cases z
  · exact h d z
theorem Uni.bare {l : List Nat} (h : Uni l) : Uni (bareOf l) := fun d hd => by
  unfold bareOf at hd
  split at hd
  · exact h d (List.mem_of_mem_tail hd)
  · exact h d hd
theorem bare_len (l : List Nat) : (bareOf l).length ≤ l.length := by
  unfold bareOf
  split
  · rw [List.length_tail]
    omega
  · exact Nat.le_refl _
theorem chr_inj (a b : Nat) (h : D.str ⟨#[a]⟩ = D.str ⟨#[b]⟩) : a = b := by
  injection h with h
  injection h with h
  simpa using h
theorem numOf_no {l : List Nat} (h : ¬ (1 ≤ l.length ∧ l.length ≤ 60 ∧ digs l = true)) : numOf l = none := if_neg h
theorem numOf_zero {l : List Nat} (h : l.head? = some 48) (h2 : l ≠ [48]) : numOf l = none := by
  unfold numOf
  split
  · rw [if_pos ⟨h, h2⟩]
  · rfl
theorem numOf_some {l : List Nat} (h : 1 ≤ l.length ∧ l.length ≤ 60 ∧ digs l = true) (h2 : ¬ (l.head? = some 48 ∧ l ≠ [48])) : ∃ n, numOf l = some n := ⟨_, by
  unfold numOf
  rw [if_pos h, if_neg h2]⟩
end DL
namespace DL
open L2
section
variable {C : Cfg} {ds : DS} {M : Mem} {k : D → Mem → Prop} {te : TE}
theorem XE.is (d0 : D) (h : XE C te ds M fun d M' => d = d0 ∧ M' = M) (q : k d0 M) : XE C te ds M k := fun F H σ s e c Q g =>
  h F H σ s e c Q fun d M' v F' H' n r z => by
    obtain ⟨rfl, rfl⟩ := z
    exact g _ _ v F' H' n r q
theorem XT.is {tt : TT} {k : Bool → Mem → Prop} (b0 : Bool) (h : XT C tt ds M fun b M' => b = b0 ∧ M' = M) (q : k b0 M) : XT C tt ds M k := fun F H σ s e c Q g =>
  h F H σ s e c Q fun d M' F' H' n z => by
    obtain ⟨rfl, rfl⟩ := z
    exact g _ _ F' H' n q
end
theorem take_neg (l : List Nat) : decide (l.take 1 = [45]) = isNeg l := by
  unfold isNeg
  cases l with
  | nil => rfl
  | cons c r => simp
theorem bare_pos {l : List Nat} (h : isNeg l = false) : bareOf l = l := by unfold bareOf; rw [h]; rfl
theorem bare_neg {l : List Nat} (h : isNeg l = true) : bareOf l = l.drop 1 := by unfold bareOf; rw [h, if_pos rfl, List.drop_one]
theorem bare_eq (l : List Nat) : decide (bareOf l = l) = !isNeg l := by
  cases h : isNeg l
  · rw [bare_pos h]; simp
  · rw [bare_neg h]
    cases l with
    | nil => simp [isNeg] at h
    | cons c r =>
      have : ¬ r = c :: r := fun z => by have := congrArg List.length z; simp at this
      simpa using this
end DL
namespace DL
theorem map_map' {α β γ : Type} (f : β → γ) (g : α → β) (xs : List α) : (xs.map g).map f = xs.map fun x => f (g x) := List.map_map ..
end DL
namespace DL
theorem fracN_long {b : Bool} {ns : List (Option Nat)} (h : 2 < ns.length) : fracN b ns = none := by
  unfold fracN
  split
  · simp at h
  · simp at h
  · rfl
theorem fracN_int {b : Bool} {n : Nat} : fracN b [some n] = if b = true ∧ n = 0 then none else some (Rat.divInt (if b then -(n : Int) else n) 1) := rfl
theorem fracN_two {b : Bool} {n d : Nat} : fracN b [some n, some d] = if d < 2 then none else if b = true ∧ n = 0 then none else if Int.gcd (if b then -(n : Int) else n) d = 1 then some (Rat.divInt (if b then -(n : Int) else n) d) else none := rfl
theorem dQ_of1 (n : Int) : dQ (Rat.divInt n 1) = .tup [.int n, .int 1] := dQ_of (by decide) (by simp)
end DL
namespace DL
open PySem SX
def isK (l : List Nat) : Bool := true
theorem eqv_dQ_none (q : Rat) : PyData.eqv (dQ q).py .none = false := rfl
theorem eqv_dKn_none (q : Kn) : PyData.eqv (dKn q).py .none = false := rfl
theorem knotOf_eq (l : List Nat) : (((spl1 58 l).map fracOf).length = 2 ∧ ((spl1 58 l).map fracOf).any Option.isNone = false ∧ ∃ a b, (spl1 58 l).map fracOf = [some a, some b] ∧ knotOf l = some (a, b)) ∨
    (¬ (((spl1 58 l).map fracOf).length = 2 ∧ ((spl1 58 l).map fracOf).any Option.isNone = false) ∧ knotOf l = none) := by
  unfold knotOf
  generalize (spl1 58 l).map fracOf = xs
  match xs with
  | [] => exact .inr ⟨by simp, rfl⟩
  | [none] => exact .inr ⟨by simp, rfl⟩
  | [some _] => exact .inr ⟨by simp, rfl⟩
  | [none, _] => exact .inr ⟨by simp, rfl⟩
  | [some _, none] => exact .inr ⟨by simp, rfl⟩
  | [some a, some b] => exact .inl ⟨rfl, rfl, a, b, rfl, rfl⟩
  | _ :: _ :: _ :: _ =>
    refine .inr ⟨by simp, ?_⟩
    split
    · simp_all
    · rfl
theorem knotL_uni {k : Kn} : Uni (knotL k) := fun c hc => by
  by_cases h : c ≠ 45 ∧ c ≠ 47 ∧ c ≠ 58 ∧ (c < 48 ∨ 57 < c)
  · exact absurd hc (knotL_free h.1 h.2.1 h.2.2.1 h.2.2.2)
  · omega
theorem joinL_mem {c d : Nat} : ∀ {ps : List (List Nat)}, d ∈ TL.joinL [c] ps → d = c ∨ ∃ p ∈ ps, d ∈ p
  | [], h => by simp [TL.joinL] at h
  | [p], h => .inr ⟨p, List.mem_cons_self .., by simpa [TL.joinL] using h⟩
  | p :: q :: ps, h => by
    simp only [TL.joinL, List.mem_append, List.mem_cons, List.not_mem_nil, or_false] at h
    rcases h with h | h
    · exact .inr ⟨p, List.mem_cons_self .., h⟩
    · rcases h with h | h
      · exact .inl h
      · rcases joinL_mem (ps := q :: ps) h with h | ⟨r, hr, h⟩
        · exact .inl h
        · exact .inr ⟨r, List.mem_cons_of_mem _ hr, h⟩
theorem tabL_uni {ks : List Kn} : Uni (tabL ks) := fun c hc => by
  rcases joinL_mem hc with rfl | ⟨p, hp, h⟩
  · decide
  · obtain ⟨k, _, rfl⟩ := List.mem_map.mp hp
    exact knotL_uni c h
end DL
namespace DL
open PySem SX
theorem dKn_inj (a b : Kn) (h : dKn a = dKn b) : a = b := dKn_py_inj (congrArg D.py h)
end DL

namespace DL
open PySem L2 SX
/-! ### the state of the laws' draws -/
abbrev kS (x : Str) : Key := .inr x
def stD (l : Addr) (cs : List Int) (r t : Int) : List (Key × D) := [(kS "large", .raw l), (kS "cells", .lst (cs.map D.int)), (kS "rest", .int r), (kS "turn", .int t)]
def stM (s l : Addr) (L cs : List Int) (r t : Int) : Mem := [(s, .dct (stD l cs r t)), (l, .lst (L.map D.int))]
structure StOk (L cs : List Int) (r t : Int) (n : Nat) : Prop where
  large : ∀ x ∈ L, 0 ≤ x
  cells : ∀ x ∈ cs, 0 ≤ x ∧ x < 2147483629
  rest : 0 ≤ r
  turn : 0 ≤ t ∧ t ≤ n
  bud : n ≤ 1000000000
  len : cs.length ≤ 1000
def IsSt (s l : Addr) (n : Nat) (M : Mem) : Prop := ∃ L cs r t, M = stM s l L cs r t ∧ StOk L cs r t n
theorem ne_str {a b : String} (h : (Str.ofString a == Str.ofString b) = false) : ¬ (kS (Str.ofString a) = kS (Str.ofString b)) := fun z => by
  injection z with z
  rw [z] at h
  simp at h
section
variable (l : Addr) (cs : List Int) (r t : Int)
theorem val_large : valD (stD l cs r t) (kS "large") = some (.raw l) := rfl
theorem val_cells : valD (stD l cs r t) (kS "cells") = some (.lst (cs.map D.int)) := rfl
theorem val_rest : valD (stD l cs r t) (kS "rest") = some (.int r) := rfl
theorem val_turn : valD (stD l cs r t) (kS "turn") = some (.int t) := rfl
theorem put_rest (r' : Int) : putDK (stD l cs r t) (kS "rest") (.int r') = stD l cs r' t := rfl
theorem put_turn (t' : Int) : putDK (stD l cs r t) (kS "turn") (.int t') = stD l cs r t' := rfl
end
theorem merge_st (l : Addr) (cs : List Int) (r t : Int) : mergeD (stD l cs r t) = stD l cs r t := rfl
theorem IsSt.more {s l : Addr} {n m : Nat} {M : Mem} (h : IsSt s l n M) (hn : n ≤ m) (hm : m ≤ 1000000000) : IsSt s l m M := by
  obtain ⟨L, cs, r, t, e, h⟩ := h
  exact ⟨L, cs, r, t, e, ⟨h.large, h.cells, h.rest, ⟨h.turn.1, by have := h.turn.2; omega⟩, hm, h.len⟩⟩
end DL
namespace DL
open PySem L2
theorem XS.monoN {C : Cfg} {ds : DS} {M : Mem} {t : TS} {P : Post} {J : DS → Mem → Prop} (h : XS C t ds M { P with nx := J }) (i : ∀ ds' M', J ds' M' → P.nx ds' M') : XS C t ds M P := fun F H σ s e c D f =>
  h F H σ s e c D ⟨fun ds' M' σ' F' H' n e' q => f.nx ds' M' σ' F' H' n e' (i _ _ q), f.rt, f.bk, f.ct⟩
theorem XS.cut {C : Cfg} {ds : DS} {M : Mem} {t u : TS} {P : Post} (J : DS → Mem → Prop) (h : XS C t ds M { P with nx := J }) (i : ∀ ds' M', J ds' M' → XS C u ds' M' P) : XS C (tSeq t u) ds M P :=
  XS.seq (XS.monoN (P := { P with nx := fun ds' M' => XS C u ds' M' P }) h i)
end DL

namespace DL
open PySem L2
section
variable {K : PySem.W.Frag} {mg : Str → Option Value} {h : Heap}
def fnT_mk (X : K.In h) (G : h.Ns mainGlobals mg) {x : Str} {st : Stmt} {f : Addr} {oc : Value} {od an : Option Addr} {osl : Array (Option Value)} {kV doc pm cdv ct : Value} (a : PySem.W.nsIn K mainGlobals x = some (some (.ref f)))
    (l : K.lookup f = some ⟨oc, od, .func (PySem.W.fnOf x x (defArgs st) (defBody st) (defScope st) .none kV doc pm an cdv ct), osl⟩) (c : PySem.W.codeIn K cdv x = true) (k : PySem.W.keepIn K (.ref f) = true) : FnT K mg x st [] [] :=
  ⟨f, _, ⟨⟨oc, od, .none, kV, doc, pm, an, cdv, ct, osl, rfl, l, c, .inl ⟨rfl, rfl⟩, .inl rfl⟩, k⟩, PySem.W.mg_of X G a⟩
def fnT_mkD (X : K.In h) (G : h.Ns mainGlobals mg) {x : Str} {st : Stmt} {f T : Addr} {oc tc : Value} {od an td : Option Addr} {osl tsl : Array (Option Value)} {kV doc pm cdv ct : Value} {its : Array Value} {n : Nat} {dvs : List V} (a : PySem.W.nsIn K mainGlobals x = some (some (.ref f)))
    (l : K.lookup f = some ⟨oc, od, .func (PySem.W.fnOf x x (defArgs st) (defBody st) (defScope st) (.ref T) kV doc pm an cdv ct), osl⟩) (c : PySem.W.codeIn K cdv x = true) (k : PySem.W.keepIn K (.ref f) = true)
    (lT : K.lookup T = some ⟨tc, td, .seq its n, tsl⟩) (rT : Vals dvs its.toList) (hd : dvs ≠ []) : FnT K mg x st dvs [] :=
  ⟨f, _, ⟨⟨oc, od, .ref T, kV, doc, pm, an, cdv, ct, osl, rfl, l, c, .inr ⟨hd, T, _, its.toList, n, rfl, lT, by simp, rT⟩, .inl rfl⟩, k⟩, PySem.W.mg_of X G a⟩
def meT_mk {C : Addr} {m qual : Str} {st : Stmt} {f : Addr} {oc : Value} {od an : Option Addr} {osl : Array (Option Value)} {kV doc pm cdv ct : Value} (a : PySem.W.findIn K (.ref C) m = some (some (.ref f))) (i : PySem.W.isFn K (.ref f) = true)
    (l : K.lookup f = some ⟨oc, od, .func (PySem.W.fnOf m qual (defArgs st) (defBody st) (defScope st) .none kV doc pm an cdv ct), osl⟩) (c : PySem.W.codeIn K cdv qual = true) (k : PySem.W.keepIn K (.ref f) = true) : MeT K C m qual st :=
  ⟨f, _, ⟨⟨oc, od, .none, kV, doc, pm, an, cdv, ct, osl, rfl, l, c, .inl ⟨rfl, rfl⟩, .inl rfl⟩, k⟩, ⟨a, i, k⟩⟩
theorem tup_mk {a : Addr} {td : Option Addr} {its : Array Value} {n : Nat} {tsl : Array (Option Value)} {ds : List D} {vs : List V} (l : K.lookup a = some ⟨.type "tuple", td, .seq its n, tsl⟩) (hz : its.size ≤ sizeLine) (r : Vals vs its.toList) (q : ∀ F, Reps K F ds vs) : ∀ F, Rep K F (.tup ds) (.ref a) := fun F =>
  .tup (.inr ⟨_, its, n, l, rfl, rfl, hz, r⟩) (q F)
theorem law_bind {x : Str} {st : Stmt} {f : Addr} {fd : FuncData} (F : FunD K "law" "law" (defArgs st) (defBody st) (defScope st) [] [] f fd)
    (hb : ∀ (kV doc pm : Value) (an : Option Addr) (cdv ct : Value) (us : List Value), us.length = [x].length → bindArgs (PySem.W.fnOf "law" "law" (defArgs st) (defBody st) (defScope st) .none kV doc pm an cdv ct) ⟨us, []⟩ = pure ([x].zip us)) (s : Shared) (u : Value) : BindsTo s fd ⟨[u], []⟩ [(x, u)] :=
  F.bindsA (ps := [x]) hb s [u] rfl
end
theorem reps_ints {K : PySem.W.Frag} {F : Hp} : ∀ ns : List Int, Reps K F (ns.map D.int) (ns.map V.int)
  | [] => .nil
  | z :: r => .cons (.int z) (reps_ints r)
def sp_law : DSp := fun ds M k _ => ∃ (v : D) (xs : List Int), ds = [v] ∧ M = [] ∧ WkAt v (xs.map D.int) ∧ xs.length ≤ 1000 ∧ ∀ M', k (.bl true) M'
theorem law_hsp {K : PySem.W.Frag} (H : Hp) (a : Addr) (ns : List Int) (hl : ns.length ≤ 1000) (hS : SqL K H a (ns.map V.int)) : spD K 1 sp_law [.ref a] H (fun v _ => v = .bl true) fun _ _ _ => False :=
  ⟨H, [], [.ro (ns.map D.int)], ⟨Ex.refl _, by simp, by simp [dom]⟩, .cons (.ro hS (reps_ints ns)) .nil, rfl, .ro (ns.map D.int), ns, rfl, rfl, .ro, hl, fun M' v F' H' n r => by cases r; rfl⟩
end DL
namespace DL
open PySem L2
theorem cx_no {P : Program} {w : World} {o : List Env} {H : Hp} {s : Shared} {u : Value} {s' : Shared} (c : L2.CX P w o H s (fun _ _ _ => False) u s') : False := by
  obtain ⟨a, B, H', cls, d, _, _, _, _, _, _, h⟩ := c
  first | exact h | exact h.2 | exact h.elim
end DL
namespace DL
open PySem
theorem kit_self {K : PySem.W.Frag} {t : Value} : PySem.W.kitOne K t t = some true := if_pos (beq_self_eq_true _)
end DL

namespace DL
open PySem PySem.Spec PyProof.Rows L2
/-! ### try: .. / except X as n: .. where the suite may hand the exception on to another name: behind the statement its object is tracked (exV) -/
theorem track {X : Cx} {pins : List (Addr × Obj)} {σ : L2.St} {H : Hp} {s : Shared} {a C : Addr} {d : Option Addr} {oe : Obj} (I : L2.Inv X pins σ H s)
    (at_ : s.heap.get? a = some oe) (zc : Zc (.ref C) d oe) (fl : ∃ vs, oe.data = .fields vs) (nH : H a = none)
    (n0 : ∀ o, X.s_0.heap.get? a = some o → a ∈ X.ex) (nl : a ≠ X.env.locals) (np : ∀ p ∈ X.pn ++ pins, p.1 ≠ a) : L2.Inv X pins σ (upd H a (exV a C d)) s := by
  have new : ObjOk X.prog X.w (upd H a (exV a C d)) s.heap a (exV a C d) :=
    ⟨⟨oe, at_, zc, fl⟩, ⟨oe, at_⟩, fun h1 h2 ⟨o, h, z, f⟩ k => ⟨o, k o h, z, f⟩⟩
  have other : ∀ b, b ≠ a → upd H a (exV a C d) b = H b := fun b hb => upd_ne hb
  have some_ne : ∀ b u, H b = some u → b ≠ a := fun b u h z => by
    rw [z, nH] at h
    cases h
  have start : ∀ b o, X.s_0.heap.get? b = some o → b ∉ X.ex → b ≠ a := fun b o h hx z => by
    subst z
    exact hx (n0 o h)
  exact
    { ok := I.ok, os := I.os, bare := I.bare, loc := I.loc, cell := I.cell, len := I.len
      base :=
        { keep := I.base.keep, slot := I.base.slot, there := I.base.there
          free := fun b o h h0 hx => (other b (start b o h hx)).trans (I.base.free b o h h0 hx)
          tups := fun b xs h => have q := I.base.tups b xs h; (other b (some_ne b _ q)).trans q
          frzs := fun b o u h => have q := I.base.frzs b o u h; (other b (some_ne b _ q)).trans q
          tbls := fun b ps h => let ⟨m, q⟩ := I.base.tbls b ps h; ⟨m, (other b (some_ne b _ q)).trans q⟩ }
      free := (other _ (Ne.symm nl)).trans I.free
      freeC := fun x c h => by
        refine (other c fun z => ?_).trans (I.freeC x c h)
        obtain ⟨v, o, g, gd⟩ := I.cell x c h
        obtain ⟨vs, e⟩ := fl
        rw [z, at_] at g
        cases g
        rw [e] at gd
        cases gd
      pin := fun p hp => have ⟨h1, h2, h3⟩ := I.pin p hp; ⟨h1, (other _ (np p hp)).trans h2, h3⟩
      hok := I.hok.laidN (fun _ _ z => z) nH new }
/-- what the clause 'except c as n' wishes, the exception being told of behind the statement -/
def wKeep (K : PySem.W.Frag) (c : Value) (i : Nat) (ts : Addr → Value → Option Addr → TS) (Wo : WX) (D : Ends) : WX := fun cls d σ H => ∃ b, PySem.W.exmOne K cls c = some b ∧
  (b = true → ∃ C : Addr, cls = .ref C ∧ ∀ a, H a = none → ts a cls d
    { nx := fun σ' H' => D.nx (σ'.set i none) (upd H' a (exV a C d)), rt := fun _ _ => False, bk := fun _ _ => False, ct := fun _ _ => False } (σ.set i (some (.ref a))) H) ∧ (b = false → Wo cls d σ H)
theorem ps_try_keep {X : Cx} {x n : Str} {c : Value} {i : Nat} {body suite : List Stmt} {b₀ : Stmt} {np pos pos' : Pos} {tb : WX → TS} {ts : Addr → Value → Option Addr → TS} {Wo : WX}
    (hs : X.stack = X.env :: X.outer) (hf : X.env.frame = some X.env.locals) (hN : X.N.Nodup) (hi : X.N[i]? = some n) (hln : X.env.kindOf n = some .local) (hc : Names X x c) (tk : Takes X Wo)
    (hb : ∀ (W : WX) (pn : List (Addr × Obj)) (xe : Value → Shared → Prop), Takes (X.tr pn xe) W → PassesOwn (model X.prog X.w) X.A X.env xe → PSs (X.tr pn xe) body (tb W))
    (hsu : ∀ (a : Addr) (oe : Obj) (cls : Value) (d : Option Addr) (pn : List (Addr × Obj)), Zc cls d oe → (∃ vs, oe.data = .fields vs) → PSs (X.suite a ((a, oe) :: pn)) (b₀ :: suite) (ts a cls d)) :
    PS X (.Try body [.ExceptHandler (some (.Name x np)) (some n) (b₀ :: suite) pos'] [] [] pos) (fun D σ H => tb (wKeep X.K c i ts Wo D) D σ H) := by
  refine ⟨fun pins s σ H D I0 h0 => ?_⟩
  have okX := I0.ok
  have frX : X.A.frames = some (X.env :: X.outer) := okX.frames.trans (congrArg some hs)
  have locN : Loc X.env.scope n := Or.inl hln
  apply wpAny_Try_except
  refine wpAny_mono ((hb (wKeep X.K c i ts Wo D) (X.pn ++ pins) (fun e s₁ => wpAny (model X.prog X.w) X.A (noteFrame e X.env) (fun _ s₂ =>
      wpAny (model X.prog X.w) X.A (setFlight e none) (fun _ s₃ =>
      wpAny (model X.prog X.w) X.A (handleBy e X.env [.ExceptHandler (some (.Name x np)) (some n) (b₀ :: suite) pos']) (SP X pins D) X.xe s₃) X.xe s₂) X.xe s₁)
      (fun u s' flies => ?caught) PassesOwn.looking).run [] s σ H D (I0.toTry _) h0) (fun f s1 fine => ?through) (fun _ _ z => z)
  case through =>
    cases f with
    | next => obtain ⟨σ1, H1, I1, q⟩ := fine; exact wpAny_execs_nil ⟨σ1, H1, I1.ofTry okX, q⟩
    | brk => obtain ⟨σ1, H1, I1, q⟩ := fine; exact ⟨σ1, H1, I1.ofTry okX, q⟩
    | cont => obtain ⟨σ1, H1, I1, q⟩ := fine; exact ⟨σ1, H1, I1.ofTry okX, q⟩
    | ret u => obtain ⟨v1, σ1, H1, I1, r1, q⟩ := fine; exact ⟨v1, σ1, H1, I1.ofTry okX, r1, q⟩
  case caught =>
    obtain ⟨a, B, sI, pI, σI, HI, cls, d, rfl, IT, inB, slots, air, fresh, osI, bareI, b, mt, yes, no⟩ := flies
    have II : L2.Inv X pins σI HI sI := IT.ofTry okX
    have air2 : Sky B (X.env :: X.outer) a (Zc cls d) X.env.locals s'.heap := hs ▸ air
    show wpAny (model X.prog X.w) X.A (noteFrame (.ref a) X.env) _ _ _
    refine Sky.land Zc.steady frX hf air2 fun h3 fl3 u3 => ?_
    have I3 : L2.Inv X pins σI HI { s' with heap := h3 } := II.landed inB fl3.1 (slots.trans u3) osI bareI
    obtain ⟨o3, v3, g3, z3, d3⟩ := fl3.there
    have noFr : a ∉ frs (X.env :: X.outer) := fun hm => by
      obtain ⟨_, o', e', hnf⟩ := fl3.2.2.1.mem hm
      rw [g3] at e'
      cases e'
      exact hnf _ d3
    have noL : a ≠ X.env.locals := fun z => noFr (List.mem_filterMap.mpr ⟨X.env, List.mem_cons_self, by rw [hf, z]⟩)
    have noF : a ∉ X.fs := fun hm => by
      obtain ⟨e, he, q⟩ := List.mem_filterMap.mp hm
      exact noFr (List.mem_filterMap.mpr ⟨e, List.mem_cons_of_mem _ he, q⟩)
    have noI : sI.heap.get? a = none := by
      cases e : sI.heap.get? a with
      | none => rfl
      | some o =>
        have q := inB a o e (by rw [hs]; exact noFr)
        rw [fl3.2.1] at q
        cases q
    have no0 : ∀ o, X.s_0.heap.get? a = some o → a ∈ X.ex := fun o e => Classical.byContradiction fun hx => by
      obtain ⟨o', q⟩ := II.base.there a o e hx
      rw [noI] at q
      cases q
    have noP : ∀ p ∈ X.pn ++ pins, p.1 ≠ a := fun p hp z => by
      have q := (II.pin p hp).1
      rw [z, noI] at q
      cases q
    have S3 := I3.suite g3 d3 fresh noL noF
    refine wpAny_handleBy_cons (codeAny_handlers_test ?_) (by intro q; cases q)
    have lookT : PySem.W.Looks (model X.prog X.w) h3 (typeOf (.ref a)) cls := fun A Q E s k q => wpAny_typeOf_ref (k _ _ g3) (by rw [z3.1]; exact q)
    have lookM := PySem.W.exm_one (M := model X.prog X.w) I3.kIn lookT mt
    have nameIs : ∀ {Q : Value → Shared → Prop} {E : Value → Shared → Prop}, Q c { s' with heap := h3 } →
        wpAny (model X.prog X.w) (X.A.mark (some (.ref a))) (eval (.Name x np) X.env) Q E { s' with heap := h3 } := fun {Q E} q => by
      rcases hc with ⟨hg, hdbg, hm | ⟨hm, hv, hnn⟩⟩
      · exact ld_glob (X := X.suite a ((a, o3) :: (X.pn ++ pins))) S3 hg hm q hdbg
      · exact ld_blt (X := X.suite a ((a, o3) :: (X.pn ++ pins))) S3 hg hm hv q hnn hdbg
    refine nameIs (lookM.here ?_)
    cases b with
    | true =>
      obtain ⟨C, rfl, yes⟩ := yes rfl
      refine codeAny_handlers_suite_as ?_
      refine HandSPX.lands_againZ fl3 fun h4 fl4 u4 => ?_
      have I4 : L2.Inv X pins σI HI { s' with heap := h4 } := II.landed inB fl4.1 ((slots.trans u3).trans u4) osI bareI
      obtain ⟨o4, v4, g4, z4, d4⟩ := fl4.there
      have S4 := I4.suite g4 d4 fresh noL noF
      refine store_ok (X := X.suite a ((a, o4) :: (X.pn ++ pins))) (v := .ref a) S4 hN hi locN rfl (fun s5 S5 => ?_) (Or.inr hln)
      refine wpAny_mono ((hsu a o4 (.ref C) d (X.pn ++ pins) z4 ⟨_, d4⟩).run [] s5 _ HI _ S5 (yes a fresh)) (fun f s6 done => ?_) (fun _ _ z => False.elim z)
      cases f with
      | next =>
        obtain ⟨σ6, H6, S6, q6⟩ := done
        have pa := S6.pin (a, o4) (List.mem_append_left _ List.mem_cons_self)
        have I6 := track (S6.unsuite okX) pa.1 z4 ⟨_, d4⟩ pa.2.1 no0 noL noP
        exact gone_ok I6 hN hi hln fun s7 I7 => ⟨_, _, I7, q6⟩
      | brk => obtain ⟨_, _, _, z⟩ := done; exact z.elim
      | cont => obtain ⟨_, _, _, z⟩ := done; exact z.elim
      | ret u => obtain ⟨_, _, _, _, _, z⟩ := done; exact z.elim
    | false =>
      show wpAny _ X.A (handleBy (.ref a) X.env []) _ _ _
      refine wpAny_handleBy_nil ?_
      obtain ⟨_, _, _, o1, w1, T1, _, _, g1, _, e1, f1, _⟩ := id fl3
      unfold PySem.passOn
      refine wpAny_bind (wpAny_field g1 e1 f1 ?_)
      rw [if_neg (show ¬ ((Value.ref T1 == Value.none) = true) from by simp)]
      have goes : wpAny (model X.prog X.w) X.A (setFlight (.ref a) X.env.frame) (fun _ s4 => wpAny (model X.prog X.w) X.A (throw (.ref a) : Sem Flow) (SP X pins D) X.xe s4) X.xe { s' with heap := h3 } := by
        rw [hf]
        refine HandSPX.setFlight_upZ fl3 fun h4 hh4 u4 => wpAny_throw (tk _ _ ?_)
        exact ⟨a, B, sI, pins, σI, HI, cls, d, rfl, II, inB, (slots.trans u3).trans u4, .inr (.inr (by rw [hs]; exact hh4)), fresh, osI, bareI, no rfl⟩
      first
        | exact wpAny_bind (wpAny_pure (wpAny_bind goes))
        | exact wpAny_bind goes
end DL

/-! isinstance of a tracked exception, its fields -/
namespace PySem.W
open PySem PySem.Spec PySem.Calls PyProof.Rows
section
variable {prog : Program} {w : World} {A : Around} {E : Value → Shared → Prop} {s : Shared} {K : Frag} {x D : Addr} {ox : Obj} {od : Option Obj}
theorem dl_classX {Q : Option Value → Shared → Prop} (T : L2.ExcC K D) (X : K.In s.heap) (I : InstAt s.heap x ox D od) (h : Q (some (.ref D)) { s with toks := s.toks + 1 }) :
    wpAny (model prog w) A (getAttr? (.ref x) "__class__") Q E s := by
  have isC : (clsIn K D).isSome = true := by
    obtain ⟨cd, q, _⟩ := any_some T.hd
    rw [q]
    rfl
  have found : findObj K D od "__class__" = some (.bind (.builtin "getset_descriptor.__get__") (.builtin "object.__class__")) := by
    cases od with
    | none => exact findObj_dataN isC T.ha T.hn T.ht
    | some o => exact findObj_data isC T.ha T.hn T.ht
  obtain ⟨heap0, gens0, drawn0, toks0, os0⟩ := s
  have ofType := I.type (M := model prog w)
  have ofHook := looks_findIn (M := model prog w) X T.hg
  have ofNoHook := looks_findIn (M := model prog w) X T.hk
  have ofFound := looks_find (M := model prog w) X I found
  have isB : Looks (model prog w) heap0 (isInstance (.ref x) (.type "BaseException")) true := ofType.andThen (looks_subIn X T.hs)
  have b0 : (false && onTheHeap (Value.builtin "BaseException.__getattribute__")) = false := rfl
  have b1 : (onTheHeap (Value.ref D) && Value.builtin "BaseException.__getattribute__" == Value.builtin "object.__getattribute__") = false := by
    have q : (Value.builtin "BaseException.__getattribute__" == Value.builtin "object.__getattribute__") = false := by decide +kernel
    rw [q]
    rfl
  unfold getAttr? getAttrBy? getAttrBy
  apply wpAny_bind
  apply wpAny_mkText
  apply wpAny_bind
  apply wpAny_attempt
  apply wpAny_holding
  apply wpAny_bind
  refine ofType.at (wpAny_bind (ofHook.at ?_))
  show wpAny _ _ (ite _ _ _) _ _ _
  rw [b1, if_neg Bool.false_ne_true]
  unfold getAttrByItsOwn hookBefore
  apply wpAny_bind
  rw [if_pos (show onTheHeap (Value.ref D) = true from rfl)]
  refine ofNoHook.at (wpAny_bind (wpAny_attempt (wpAny_holding ?_)))
  unfold callGetattribute
  rw [b0, if_neg Bool.false_ne_true]
  unfold boundAndCalled
  rw [PySem.F.excAttr_ValueError.ga.bind (.ref x)]
  refine wpAny_bind (wpAny_pure (?_ : wpAny _ _ (call (.builtin "BaseException.__getattribute__") [.ref x, .str "__class__" toks0]) _ _ _))
  refine wpAny_call (codeAny_call_builtin PySem.F.excAttr_ValueError.ga.plain PySem.F.entry_bexc_ga ?_)
  refine @check_slot (model prog w) _ _ ⟨heap0, gens0, drawn0, toks0 + 1, os0⟩ "BaseException.__getattribute__" "BaseException" "__getattribute__" (.ref x) [.str "__class__" toks0] [] _
    (by decide +kernel) (by decide +kernel) isB (PySem.F.args_bexc_ga (.ref x) (.str "__class__" toks0)) ?_
  unfold Builtin.«object.__getattribute__»
  refine wpAny_bind (wpAny_of_eq (a := ((Value.ref x : Value), [Value.str "__class__" toks0])) (by first | rfl | (simp only [slotArgs]; rfl)) ?_)
  refine wpAny_bind (wpAny_pure (wpAny_bind (ofType.at (wpAny_bind (ofFound.at ?_)))))
  show wpAny _ _ (holding [Value.builtin "object.__class__"] (call (.builtin "getset_descriptor.__get__") [.builtin "object.__class__", .ref x, .ref D]) >>= ret) _ _ _
  apply wpAny_bind
  apply wpAny_holding
  refine wpAny_call (class_get (s := ⟨heap0, gens0, drawn0, toks0 + 1, os0⟩) (ox := ox) (od := od) X I T.hm ?_)
  apply wpAny_pure
  show wpAny _ _ (handedOut (.ref D)) _ _ _
  rw [handedOut_of (v := .ref D) rfl]
  first
    | exact wpAny_pure (wpAny_pure h)
    | exact wpAny_pure h
    | exact wpAny_pure (wpAny_bind (wpAny_pure (wpAny_pure h)))
theorem dl_kitX (T : L2.ExcC K D) : KitX K (.ref x) (.ref D) (fun h => ∃ ox od, InstAt h x ox D od) where
  ty := fun _ _ _ ⟨_, _, I⟩ => I.type
  it := fun _ _ X _ => by
    obtain ⟨cdD, q, _⟩ := any_some T.hd
    unfold clsIn at q
    split at q
    · rename_i e
      intro A' Q' E' s' k z
      unfold isType loadHead
      exact wpAny_bind (wpAny_loadPart (k _ _ (X _ _ e)) (wpAny_pure z))
    · cases q
  ne := fun h tp dd its n sl X htp => Bool.eq_false_iff.mpr fun z => by
    have e : D = tp := Value.ref.inj (beq_iff_eq.mp z)
    obtain ⟨cdD, q, _⟩ := any_some T.hd
    unfold clsIn at q
    split at q
    · rename_i g
      rw [← e] at htp
      cases (X _ _ g).symm.trans htp
    · cases q
  ca := fun X ⟨_, _, I⟩ k => dl_classX T X I k
end
end PySem.W
namespace DL
open PySem PySem.Spec PyProof.Rows L2
/-- how a tracked exception stands -/
theorem exV_inst {P : Program} {w : World} {H : Hp} {h : Heap} {a C : Addr} {d : Option Addr} {gs : List (Str × V)} (hok : HOk P w H h) (e : H a = some (exV a C d)) (x : XD H d gs) :
    ∃ ox od, PySem.W.InstAt h a ox C od := by
  obtain ⟨⟨oe, he, hz, vs, hd⟩, _, _⟩ := hok a _ e
  cases d with
  | none => exact ⟨oe, none, by
      obtain ⟨oc, od, oda, osl⟩ := oe
      obtain ⟨h1, h2⟩ := hz
      dsimp only at h1 h2 hd
      subst h1 h2 hd
      exact ⟨he, rfl, rfl, trivial⟩⟩
  | some p =>
    obtain ⟨mA, hns, _⟩ := hok p _ x
    obtain ⟨od, ho, _⟩ := lookIn_ns hns
    exact ⟨oe, some od, he, hz.1, by unfold PySem.W.notCls; rw [hd] <;> rfl, by rw [hz.2]; exact ho⟩
/-- isinstance(e, c), e a tracked exception -/
def rIsX (K : PySem.W.Frag) : List V → Hp → VK → Prop := fun xs H Q => ∃ (a C : Addr) (d : Option Addr) (gs : List (Str × V)) (c : V) (cv : Value) (b : Bool), xs = [.ref a, c] ∧ H a = some (exV a C d) ∧ XD H d gs ∧ ExcC K C ∧ (∀ u, RelV c u → u = cv) ∧
  PySem.W.kitOne K (.ref C) cv = some b ∧ Q (.bl b) H
theorem cr_isX {X : Cx} : CallR X (.builtin "isinstance") (rIsX X.K) := by
  intro pins s σ H xs us Q I r h
  obtain ⟨a, C, d, gs, c, cv, b, rfl, ha, hd, T, hcv, e, q⟩ := h
  cases r with
  | cons rx rr =>
    cases rr with
    | cons rt rr =>
      cases rr
      cases rx
      have ec := hcv _ rt
      subst ec
      exact PySem.W.kia_one (PySem.W.dl_kitX T) I.kIn (exV_inst I.hok ha hd) e (fun z => nomatch z) fun tk => ⟨.bl b, H, I.kept (t' := tk) fun _ _ z => z, rfl, q⟩
/-- e.f, e a tracked exception -/
def tXg (K : PySem.W.Frag) (f : Str) (te : TE) : TE := fun σ H Q => te σ H fun x H1 => ∃ (a C dd : Addr) (fs : List (Str × V)) (v : V), x = .ref a ∧ H1 a = some (exV a C (some dd)) ∧ XfC K C ∧ PySem.W.findIn K (.ref C) f = some none ∧ H1 dd = some (.xd fs) ∧ fs.lookup f = some v ∧ Q v H1
theorem pe_xg {X : Cx} {e : Expr} {te : TE} {pos : Pos} {n : Str} (he : PE X e te) (hb : attributeBase e n X.env (eval e X.env) = eval e X.env := by rfl) : PE X (.Attribute e n pos) (tXg X.K n te) := by
  refine ⟨fun pins s σ H Q I h => ?_⟩
  refine attr_of hb (thn (he.run pins s σ H _ I h) fun u s1 hh => ?_)
  obtain ⟨x, H1, I1, rx, a, C, dd, fs, v, rfl, ea, T, no, ed, l, q⟩ := hh
  obtain rfl : u = Value.ref a := rx
  obtain ⟨⟨oe, ha, hz, vs, hd⟩, _, _⟩ := I1.hok a _ ea
  obtain ⟨mA, hns, hr⟩ := I1.hok dd _ ed
  obtain ⟨od, ho, hl⟩ := lookIn_ns hns
  obtain ⟨u, hu, ru⟩ := RelO.some_of (v := v) (o := mA n) (by rw [← l]; exact hr n)
  have J : PySem.W.InstAt s1.heap a oe C (some od) := ⟨ha, hz.1, by unfold PySem.W.notCls; rw [hd] <;> rfl, by rw [hz.2]; exact ho⟩
  refine HandSPX.exc_get I1.kIn J T.ga T.gg T.exC (PySem.W.findObj_own T.hdC no rfl ?_) (handed_of ru) ⟨v, H1, I1.tok _, ru, q⟩
  rw [hl, hu]
end DL

namespace DL
open PySem PySem.Spec PyProof.Rows L2
theorem kit_sub {K : PySem.W.Frag} {t : Value} {C : Addr} {b : Bool} (h1 : PySem.W.subIn K (.ref C) (.type "BaseException") = some true) (hd : PySem.W.hasDictIn K C = true) (ht : PySem.W.typeIn K (.ref C) = some (.type "type"))
    (h4 : PySem.W.subIn K t (.ref C) = some b) (hn : (t == .ref C) = true → b = true) : PySem.W.kitOne K t (.ref C) = some b := by
  have e := PySem.W.exm_ref h1 hd ht h4
  unfold PySem.W.exmOne at e
  rw [h1, if_pos (by rfl)] at e
  unfold PySem.W.kitOne
  split
  · rename_i q
    rw [hn q]
  · exact e
section
variable {C : Cfg} {ds : DS} {M : Mem} {k : D → Mem → Prop} {te : TE} {K : PySem.W.Frag}
theorem XC.isi_exc {A B : Addr} {fs : List (Str × D)} {b : Bool} (T : ExcC K A) (e : PySem.W.kitOne K (.ref A) (.ref B) = some b) (h : k (.bl b) M) : XC K (rIsX K) [.exc A fs, .raw B] M k := fun F H vs s r Q g => by
  cases r with
  | cons r1 r2 =>
    cases r2 with
    | cons r2 r3 =>
      cases r3
      cases r2
      cases r1 with
      | exc h1 x rf =>
        exact ⟨_, A, _, _, .ref B, .ref B, b, rfl, s.ex _ _ h1, x.mono s.ex, T, fun u z => z, e, g.now s (.bl b) h⟩
theorem XE.xg {f : Str} (h : XE C te ds M fun x M1 => ∃ A fs d, x = .exc A fs ∧ XfC C.K A ∧ PySem.W.findIn C.K (.ref A) f = some none ∧ fs.lookup f = some d ∧ k d M1) : XE C (tXg C.K f te) ds M k := fun F H σ s e c Q g =>
  h F H σ s e c _ fun x M1 v F1 H1 n1 r1 h1 => by
    obtain ⟨A, fs, d, rfl, T, no, l, q⟩ := h1
    cases r1 with
    | @exc a _ dd _ gs h1 x rf =>
      obtain ⟨v, hv, rv⟩ := rf.lookup l
      cases dd with
      | none =>
        have x : gs = [] := x
        subst x
        simp at hv
      | some p => exact ⟨a, A, p, gs, v, rfl, n1.st.ex _ _ h1, T, no, n1.st.ex _ _ x, hv, g _ _ _ _ _ n1 rv q⟩
theorem XE.callS {n : Nat} {sp : DSp} {t : TA} (m : MonoD sp) (h : XA C t ds M fun xs M1 => ∃ Mr Mc, M1 = Mr ++ Mc ∧ xs.length = n ∧ sp xs Mc (fun r M' => k r (Mr ++ M')) (fun cls fs M' => C.x ds cls fs (Mr ++ M'))) :
    XE C (tCallS (spD C.K n sp) C.E t) ds M k := fun F H σ s e c Q g =>
  h F H σ s e c _ fun xs M1 vs F1 H1 n1 r1 h1 => by
    obtain ⟨Mr, Mc, rfl, hl, q⟩ := h1
    exact spD_use (x := C.x ds) n1.st r1 hl q (g.next n1) (fun cls fs M' d F' H' n2 hx ex => c ds σ cls fs M' F' H' d (n1.trans n2) (e.mono (n1.trans n2).ex) hx ex) (m _ _)
theorem XE.callSP {n : Nat} {p : PSp} {t : TA} (m : MonoP p) (h : XA C t ds M fun xs M1 => xs.length = n ∧ p xs (fun r => k r M1) (fun cls fs => C.x ds cls fs M1)) :
    XE C (tCallS (spD C.K n (pur p)) C.E t) ds M k := XE.callS m.pur fun F H σ s e c Q g => h F H σ s e c Q fun xs M1 vs F1 H1 n1 r1 h1 => g xs M1 vs F1 H1 n1 r1
      ⟨M1, [], (List.append_nil _).symm, h1.1, rfl, m _ _ _ _ _ (fun r q => by rw [← List.append_nil M1] at q; exact q) (fun c f q => by rw [← List.append_nil M1] at q; exact q) h1.2⟩
end
/-- a caught exception becomes still -/
theorem Nxt.keepX {K : PySem.W.Frag} {F H : Hp} {M : Mem} {a A : Addr} {d : Option Addr} {fs : List (Str × D)} (s : Stt K F H M) (na : H a = none) (ex : ExD K F H d fs) :
    ∃ F', Nxt K F H M F' (upd H a (exV a A d)) M ∧ Rep K F' (.exc A fs) (.ref a) := by
  have fa : F a = none := by
    cases q : F a with
    | none => rfl
    | some o => rw [s.ex _ _ q] at na; cases na
  -- the still heap with the exception's dict, then with the exception
  obtain ⟨F1, gs, hF, hx, rf, hsub⟩ : ∃ F1 gs, Ex F F1 ∧ XD F1 d gs ∧ RepF K F1 fs gs ∧ ∀ b o, F1 b = some o → F b = some o ∨ (H b = some o ∧ ∃ gs, o = .xd gs) := by
    cases d with
    | none =>
      have e : fs = [] := ex
      subst e
      exact ⟨F, [], Ex.refl _, rfl, .nil, fun b o h => .inl h⟩
    | some p =>
      obtain ⟨gs, hp, rf⟩ := ex
      refine ⟨upd F p (.xd gs), gs, ?e, upd_same, ?r, fun b o h => ?_⟩
      case e =>
        intro b o h
        by_cases z : b = p
        · subst z
          rw [s.ex _ _ h] at hp
          cases hp
          exact upd_same
        · rw [upd_ne z]
          exact h
      case r =>
        refine rf.mono ?_
        intro b o h
        by_cases z : b = p
        · subst z
          rw [s.ex _ _ h] at hp
          cases hp
          exact upd_same
        · rw [upd_ne z]
          exact h
      · by_cases z : b = p
        · subst z
          rw [upd_same] at h
          cases h
          exact .inr ⟨hp, _, rfl⟩
        · rw [upd_ne z] at h
          exact .inl h
  have f1a : F1 a = none := by
    cases q : F1 a with
    | none => rfl
    | some o =>
      rcases hsub a o q with h | ⟨h, _⟩
      · rw [fa] at h; cases h
      · rw [na] at h; cases h
  have e2 : Ex F1 (upd F1 a (exV a A d)) := Ex.new f1a
  have nea : ∀ b o, H b = some o → b ≠ a := fun b o h z => by
    rw [z, na] at h
    cases h
  refine ⟨upd F1 a (exV a A d), ⟨⟨fun b o h => ?_, fun p hp => ?_, s.nd⟩, hF.trans e2, fun b o h _ => ?_, fun b h1 h2 _ h4 => ?_, fun b m => .inl m, fun b h => ?_⟩, .exc upd_same (hx.mono e2) (rf.mono e2)⟩
  · by_cases z : b = a
    · subst z
      rw [upd_same] at h ⊢
      exact h
    · rw [upd_ne z] at h ⊢
      rcases hsub b o h with q | ⟨q, _⟩
      · exact s.ex _ _ q
      · exact q
  · obtain ⟨h1, o, h2, h3⟩ := s.mem p hp
    have z := nea _ _ h2
    refine ⟨?_, o, by rw [upd_ne z]; exact h2, h3.mono (hF.trans e2)⟩
    rw [upd_ne z]
    cases q : F1 p.1 with
    | none => rfl
    | some u =>
      rcases hsub _ u q with h | ⟨h, gs, rfl⟩
      · rw [h1] at h; cases h
      · exact absurd h (MRep.noxd h2 h3 gs)
  · rw [upd_ne (nea b o h)]
    exact h
  · cases e : H b with
    | none => exact absurd e h2
    | some o =>
      have z := nea b o e
      rw [upd_ne z]
      cases q : F1 b with
      | none => rfl
      | some u =>
        rcases hsub b u q with h | ⟨h, gs, rfl⟩
        · rw [h1] at h; cases h
        · exact absurd h (h4 gs)
  · cases e : H b with
    | none => exact absurd e h
    | some o =>
      rw [upd_ne (nea b o e), e]
      simp
end DL
namespace DL
open PySem PySem.Spec PyProof.Rows L2
/-- try: body / except c as i: j = i -/
theorem XS.tryKeep {C : Cfg} {ds : DS} {M : Mem} {P : Post} {i j : Nat} {cv : Value} {tb : WX → TS} (hij : i ≠ j) (x : DS → Value → List (Str × D) → Mem → Prop)
    (hx : ∀ ds' cls fs M', x ds' cls fs M' → i < ds'.length ∧ ∃ b, PySem.W.exmOne C.K cls cv = some b ∧ (b = true → ∃ A, cls = .ref A ∧ P.nx ((ds'.set j (some (.exc A fs))).set i none) M') ∧ (b = false → C.x ds' cls fs M'))
    (h : ∀ W, XS ⟨C.K, WE W, x⟩ (tb W) ds M P) :
    XS C (fun D σ H => tb (wKeep C.K cv i (fun _ _ _ => tAsg (tVar i) (gName j)) (fun cls d σ H => C.E σ cls d H) D) D σ H) ds M P := fun F H σ s e c D f => by
  refine h _ F H σ s e (fun ds' σ' cls fs M' F' H' d n e' hq ex => ?_) D f
  obtain ⟨hi, b, hb, hyes, hno⟩ := hx _ _ _ _ hq
  refine ⟨b, hb, fun z => ?_, fun z => c ds' σ' cls fs M' F' H' d n e' (hno z) ex⟩
  obtain ⟨A, rfl, q⟩ := hyes z
  refine ⟨A, rfl, fun a na => ?_⟩
  obtain ⟨F2, n2, r⟩ := Nxt.keepX (A := A) n.st na ex
  have hl : i < σ'.length := by rw [← e'.1]; exact hi
  have e2 := e'.mono n2.ex
  refine ⟨.ref a, by rw [List.getElem?_set_self hl], f.nx _ M' _ F2 _ (n.trans n2) ⟨?_, fun m v hm => ?_⟩ q⟩
  · simp only [List.length_set]
    exact e2.1
  · by_cases h1 : m = i
    · subst h1
      rw [List.getElem?_set] at hm
      split at hm
      · split at hm
        · cases hm
        · cases hm
      · rename_i z
        exact absurd rfl z
    · rw [List.getElem?_set_ne (Ne.symm h1)] at hm ⊢
      by_cases h2 : m = j
      · subst h2
        rw [List.getElem?_set] at hm
        rw [if_pos rfl] at hm
        split at hm
        · rename_i hm2
          cases hm
          refine ⟨.ref a, ?_, r⟩
          rw [List.getElem?_set_self (by rw [List.length_set, ← e2.1]; exact hm2)]
        · cases hm
      · rw [List.getElem?_set_ne (Ne.symm h2)] at hm ⊢
        rw [List.getElem?_set_ne (Ne.symm h1)]
        exact e2.2 m v hm
end DL

namespace DL
open PySem PySem.Spec PyProof.Rows L2
/-- what an exception's own __init__ with one field does -/
def spI (A : Addr) (f : Str) : Sp := fun vs H Q _ => ∃ a y, vs = [.ref a, y] ∧ H a = some (exo a A none) ∧ ∀ dx, H dx = none → dx ≠ a → Q .non (upd (upd H dx (exd dx [(f, y)])) a (exo a A (some dx)))
theorem init_run {K : PySem.W.Frag} {A : Addr} {f : Str} {N : List Str} {vs : List V} {H : Hp} {Q : VK} {E : XK} (T : OexC K A) (no : PySem.W.findIn K (.ref A) f = some none) (hN : N.length = 2) (h : spI A f vs H Q E) :
    tOst K f (tVar 0) (tVar 1) { nx := fun _ H' => Q .non H', rt := Q } (L2.start N vs) H := by
  obtain ⟨a, y, rfl, ha, hq⟩ := h
  have e : L2.start N [.ref a, y] = [some (.ref a), some y] := by
    unfold L2.start
    rw [hN]
    rfl
  rw [e]
  exact ⟨y, rfl, .ref a, rfl, a, A, rfl, T, no, .inl ⟨ha, fun dx h1 h2 => hq dx h1 h2⟩⟩
section
variable {C : Cfg} {ds : DS} {M : Mem} {P : Post} {ta : TA} {E : XK}
theorem XS.raiseI {A : Addr} {f : Str} (hE : ∀ σ, C.E σ = E) (h : XA C ta ds M fun xs M1 => ∃ y, xs = [y] ∧ C.x ds (.ref A) [(f, y)] M1) :
    XS C (fun _ σ H => tMkO A (spI A f) [] ta σ H fun cls d H' => (fun cls d (_ : L2.St) H => E cls d H) cls d σ H') ds M P := fun F H σ s e c D ft => by
  refine h F H σ s e c _ fun xs M1 vs F1 H1 n1 r1 h1 => ?_
  obtain ⟨y, rfl, hx⟩ := h1
  cases r1 with
  | @cons _ v _ _ ry r2 =>
    cases r2
    refine ⟨by show 1 ≤ 1000; decide, fun a na => ⟨a, v, rfl, upd_same, fun dx hd hda => ⟨rfl, dx, [(f, v)], upd_same, ?_, ?_, ?_⟩⟩⟩
    · rw [upd_ne hda, upd_same]
    · rw [upd_ne hda] at hd
      exact hd
    · rw [upd_ne hda] at hd
      have e3 : upd (del (upd (upd (upd H1 a (exo a A none)) dx (exd dx [(f, v)])) a (exo a A (some dx))) a) dx (.xd [(f, v)]) = upd H1 dx (.xd [(f, v)]) := by
        funext b
        by_cases h1 : b = dx
        · subst h1
          rw [upd_same, upd_same]
        · rw [upd_ne h1, upd_ne h1]
          by_cases h2 : b = a
          · subst h2
            rw [del_same, na]
          · rw [del_ne h2, upd_ne h2, upd_ne h1, upd_ne h2]
      show E (.ref A) (some dx) _
      rw [e3, ← hE σ]
      have n2 := Nxt.newX (o := .xd [(f, v)]) n1.st hd
      exact c ds σ (.ref A) [(f, y)] M1 F1 _ (some dx) (n1.trans n2) (e.mono n1.ex) hx ⟨[(f, v)], upd_same, .cons ry .nil⟩
end
end DL

/-! defs that may use repr of lists: called where nothing is being shown (guards known to be none) -/
namespace DL
open PySem PySem.Spec PyProof.Rows L2
structure FnG (P : Program) (w : World) (K : PySem.W.Frag) (mg : Str → Option Value) (base : Heap) (CX : CXT) (k : Nat) (f : Addr) (fd : FuncData) (ps : List Str) (sp : Sp) : Prop where
  len : ∀ vs H Q E, sp vs H Q E → vs.length = ps.length
  run : ∀ (A : Around) (outer : List Env) (s : Shared) (H : Hp) (args : Args) (us : List Value) (vs : List V) (Q : VK) (E : XK), Room k A → A.guards = some [] →
    Env0 P w K mg base A outer s H → BindsTo s fd args (ps.zip us) → Vals vs us → sp vs H Q E → codeAny (model P w) A (.call (.ref f) args) (CR CX outer P w H s Q E) s
theorem fnG_of {CX : CXT} {P : Program} {w : World} {K : PySem.W.Frag} {mg : Str → Option Value} {base : Heap} {k : Nat} {f : Addr} {x qual : Str} {params : Arguments} {body : List Stmt} {scope : Scope} {dvs : List V} {kws : List (Str × V)} {fd : FuncData}
    {N ps : List Str} {sp : Sp} (F : FunD K x qual params body scope dvs kws f fd) (S : FnScope N ps scope) (len : ∀ vs H Q E, sp vs H Q E → vs.length = ps.length)
    (hbody : ∀ (cdv : Value) (A : Around) (outer : List Env) (s : Shared) (H : Hp) (vs : List V) (Q : VK) (E : XK), Room k (A.deeper (envOfC qual scope s.heap.objs.size f cdv)) → A.guards = some [] → sp vs H Q E →
      ∃ t, PSs (cxOf CX P w K mg base N qual scope f cdv A outer s H E) body t ∧ t { nx := fun _ H' => Q .non H', rt := Q } (L2.start N vs) H) :
    FnG P w K mg base CX (k + 1) f fd ps sp := by
  obtain ⟨oc, od, dV, kV, doc, pm, an, cdv, ct, osl, rfl, at_, code, _, _⟩ := F.ex
  refine ⟨len, fun A outer s H args us vs Q E room noG env0 binds rel prom => ?_⟩
  have hlen := len _ _ _ _ prom
  have inH : K.In s.heap := env0.mod.kin.keeps fun b o e => (env0.bs b o e).1
  have noLim : s.heap.NoLimit := env0.mod.nolimit.keeps fun b o e => (env0.bs b o e).1
  have kinds : ∀ y ∈ ps.zip us, scope.names.lookup y.1 = some .local ∨ (scope.names.lookup y.1 = some .cell ∧ ((cellsFrom (s.heap.objs.size + 1) scope.names []).lookup y.1).isSome = true) := by
    rintro ⟨n, v⟩ hy
    refine (S.par n (List.of_mem_zip hy).1).imp id fun q => ⟨q, ?_⟩
    exact PySem.W.cellsFrom_some _ _ _ (.inl q)
  refine codeAny_call_function room.depth (inH _ _ at_) rfl S.co S.gen rfl (PySem.W.codeRec_of inH code) (binds _ _ _ _ ?_)
  refine wpAny_newFunctionEnv_cells S.kind kinds fun env hEnv s1 inC => ?_
  subst hEnv
  refine ⟨noLim.keeps inC.toInCall.keep, codeAny_func ?_⟩
  obtain ⟨t, ht, hq⟩ := hbody cdv A outer s H vs Q E (room.deeper _) noG prom
  refine wpAny_mono (ht.run [] s1 (L2.start N vs) H _ (inv_start S room.hd env0 hlen rel inC) hq) (fun fl s' hs => ?_) fun e s' hs => hs
  cases fl with
  | ret u => exact let ⟨v, σ', H', J, rv, q⟩ := hs; ⟨v, H', J.os, J.bare, J.base, J.hok, rv, q⟩
  | next => exact let ⟨σ', H', J, q⟩ := hs; ⟨V.non, H', J.os, J.bare, J.base, J.hok, rfl, q⟩
  | brk => exact let ⟨_, _, _, q⟩ := hs; q.elim
  | cont => exact let ⟨_, _, _, q⟩ := hs; q.elim
/-- the law's call from its promise -/
theorem law_callG {P : Program} {w : World} {K : PySem.W.Frag} {mg mb : Str → Option Value} {CX : CXT} {k : Nat} {fa a : Addr} {fd : FuncData} {x : Str} {sp : Sp} {s₁ : Shared} {vs : List Value} {ns : List Int}
    (inH : K.In s₁.heap) (hns : s₁.heap.Ns mainGlobals mg) (hb : s₁.heap.Ns builtinsNs mb) (hbb : ∀ x : Str, x ≠ "__name__" → mb x = bootBuiltins x) (hlim : s₁.heap.NoLimit) (hg : s₁.gens = #[])
    (ha : s₁.heap.get? a = some { cls := .type "list", data := .seq vs.toArray }) (hi : IntsAre vs ns) (hl : ns.length ≤ sizeLine) (hr : Room k callerA)
    (F : ∀ base : Heap, K.In base → base.Ns mainGlobals mg → FnG P w K mg base CX k fa fd [x] sp) (hbind : ∀ (s : Shared) (u : Value), BindsTo s fd ⟨[u], []⟩ [(x, u)])
    (hsp : ∀ H : Hp, Only H → SqL K H a (ns.map V.int) → sp [.ref a] H (fun v _ => v = .bl true) fun _ _ _ => False) (hCX : ∀ H e s', CX [] H s₁ (fun _ _ _ => False) e s' → False) :
    codeAny (model P w) callerA (.call (.ref fa) ⟨[.ref a], []⟩) (fun r s' => r = .ok (.ret (.bool true)) ∧ OldK s₁.heap s'.heap ∧ s'.os = s₁.os ∧ AllBare s'.gens) s₁ := by
  have rel := vals_ints hi
  obtain ⟨H, only, sq, hok, onlyA, notA⟩ : ∃ H : Hp, Only H ∧ SqL K H a (ns.map V.int) ∧ HOk P w H s₁.heap ∧ (∀ b, H b ≠ none → b = a) ∧ (H a ≠ none → K.lookup a = none) := by
    cases hk : K.lookup a with
    | some o =>
      have e := inH a o hk
      rw [ha] at e
      cases e
      refine ⟨fun _ => none, fun _ => .inl rfl, .inr ⟨_, vs.toArray, _, hk, rfl, rfl, rfl, ?_, by simpa using rel⟩, fun b u z => (nomatch (show (none : Option HO) = some u from z)), fun b z => absurd rfl z, fun z => absurd rfl z⟩
      rw [List.size_toArray, hi.length]
      exact hl
    | none =>
      obtain ⟨u, hu⟩ : ∃ u : HO, u = .frz { cls := .type "list", data := .seq vs.toArray } (.lst (ns.map V.int)) := ⟨_, rfl⟩
      refine ⟨upd (fun _ => none) a u, fun b => ?_, .inl (.inr ⟨{ cls := .type "list", data := .seq vs.toArray }, hu ▸ upd_same⟩), fun b o z => ?_, fun b z => ?_, fun _ => rfl⟩
      · by_cases q : b = a
        · exact .inr ⟨_, _, by rw [q, upd_same, hu]⟩
        · exact .inl (upd_ne q)
      · by_cases q : b = a
        · rw [q, upd_same, hu] at z
          cases z
          rw [q]
          exact ⟨ha, by rw [List.length_map]; exact hl, vs, _, rel, ha⟩
        · rw [upd_ne q] at z
          cases z
      · exact Classical.byContradiction fun q => z (upd_ne q)
  have out : ∀ {b : Addr} {o : Obj}, s₁.heap.get? b = some o → b ≠ a → (hidT s₁.heap H).get? b = some o := fun {b o} e n => hidT_get e (by
    cases q : H b with
    | none => rfl
    | some u => exact absurd (onlyA b (by rw [q]; simp)) n)
  have outNs : ∀ {b : Addr} {m : Str → Option Value}, s₁.heap.Ns b m → (hidT s₁.heap H).Ns b m := fun {b m} ⟨o, es, ep, e, d, r⟩ => ⟨o, es, ep, out e (fun q => by
    rw [q, ha] at e
    cases e
    cases (show Data.seq vs.toArray _ = Data.dict es ep from d)), d, r⟩
  have inB : K.In (hidT s₁.heap H) := fun b o e => by
    cases q : H b with
    | none => exact hidT_get (inH b o e) q
    | some u =>
      have z := onlyA b (by rw [q]; simp)
      subst z
      rw [notA (by rw [q]; simp)] at e
      cases e
  obtain ⟨mc, l1, l2⟩ := hlim
  have env0 : Env0 P w K mg (hidT s₁.heap H) callerA [] s₁ H :=
    { frames := rfl, mod := ⟨inB, outNs hns, ⟨mb, outNs hb, hbb⟩, ⟨mc, outNs l1, l2⟩⟩, bs := fun b o e => of_hidT e, bsz := Nat.le_of_eq (hidT_size _ _), funs := trivial
      frf := fun b hb => (nomatch (show b ∈ ([] : List Addr) from hb)), hok := hok, bare := .of_eq hg }
  refine codeAny_mono ((F _ inB (outNs hns)).run callerA [] s₁ H ⟨[.ref a], []⟩ [.ref a] [.ref a] _ _ hr rfl env0 (hbind s₁ (.ref a)) (.cons rfl .nil) (hsp H only sq)) fun r s' h => ?_
  cases r with
  | error e => exact (hCX H e s' h).elim
  | ok fl =>
    cases fl with
    | next => exact False.elim h
    | brk => exact False.elim h
    | cont => exact False.elim h
    | ret u =>
      obtain ⟨v, H', os, bare, un, hok', r', q⟩ := h
      cases (show v = .bl true from q)
      obtain rfl : u = Value.bool true := r'
      refine ⟨rfl, OldK.of_keep fun b o e => ?_, os, bare⟩
      cases q : H b with
      | none => exact un.keep b o e q (fun z => (nomatch (show b ∈ ([] : List Addr) from z))) (by simp)
      | some u =>
        rcases only b with z | ⟨ob, xs, z⟩
        · rw [q] at z; cases z
        · have g1 := (hok b _ z).1
          have g2 := (hok' b _ (un.frzs b ob _ z)).1
          rw [e] at g1
          cases g1
          exact g2
theorem walk_ofG {l : PySem.W.OpenLaw} {n k : Nat} {q : Program} {loose : List Str} {XP : (Str → Option Value) → Heap → Prop} {YP : World → Heap → Prop} {d : DefRec} {K : Params → PySem.W.Frag} {CX : World → CXT} {sp : World → Sp} {x : Str}
    (hn : l.most = some n) (hn2 : n ≤ sizeLine) (hdf : d.params.defaults = []) (hr : Room k callerA) (hY : ∀ (w : World) (h : Heap), YP w h → (K w.params).In h)
    (F : ∀ (w : World) (mg : Str → Option Value) (fa : Addr) (h : Heap), (K w.params).In h → h.Ns mainGlobals mg → mg d.name = some (.ref fa) →
      ∃ fd : FuncData, (∀ (s : Shared) (u : Value), BindsTo s fd ⟨[u], []⟩ [(x, u)]) ∧ ∀ base : Heap, (K w.params).In base → base.Ns mainGlobals mg → FnG l.prog w (K w.params) mg base (CX w) k fa fd [x] (sp w))
    (hsp : ∀ (w : World) (H : Hp) (a : Addr) (ns : List Int), ns.length ≤ n → Only H → SqL (K w.params) H a (ns.map V.int) → sp w [.ref a] H (fun v _ => v = .bl true) fun _ _ _ => False)
    (hCX : ∀ (w : World) (H : Hp) (s : Shared) (e : Value) (s' : Shared), CX w [] H s (fun _ _ _ => False) e s' → False) :
    PySem.W.WalkO q loose XP YP l.row.toRowW d [] (fun f vs => PySem.call f vs) := by
  refine Att.attach_call hn hdf fun w s₀ s₁ mg mb fa o pm cd doc a vs ns G Y _ _ _ hmg hobj hints hlen hg => ?_
  obtain ⟨fd, hb, hF⟩ := F w mg fa _ (hY w _ Y) G.T.g hmg
  exact law_callG (hY w _ Y) G.T.g G.T.b G.T.builtins G.T.nolimit hg hobj hints (Nat.le_trans hlen hn2) hr hF hb (fun H hO hS => hsp w H a ns hlen hO hS) fun H e s' => hCX w H s₁ e s'
end DL

namespace DL
open PySem PySem.Spec PyProof.Rows L2 PySem.P
/-- repr(x), x plain data, where nothing is being shown -/
def rRepr (K : PySem.W.Frag) : List V → Hp → VK → Prop := fun xs H Q => ∃ v d, xs = [v] ∧ Dp K H v d ∧ d.showable = true ∧ d.hasDict = false ∧ d.depth ≤ 60 ∧ d.shown.length ≤ sizeLine ∧ Q (.str d.shown) H
theorem cr_repr {X : Cx} (hg : X.A.guards = some []) (hu : X.A.units + 65 < cLine) : CallR X (.builtin "repr") (rRepr X.K) := by
  intro pins s σ H xs us Q I r h
  obtain ⟨v, d, rfl, dp, sh, nd, dd, ln, q⟩ := h
  cases r with
  | cons rx rr =>
    cases rr
    rename_i u
    obtain ⟨as, rd⟩ := Dp.reads I d v u dp rx
    by_cases hr : ∃ a, u = .ref a
    · obtain ⟨a, rfl⟩ := hr
      exact repr_of_reads' rd sh (fun z => by rw [nd] at z; cases z) hg (by omega) (fun _ _ e => e) (fun h' tk t2 k => ⟨.str d.shown, H, I.kept (t' := t2) k, ⟨_, rfl⟩, q⟩) ln
    · cases rd with
      | none => exact repr_of_none ⟨.str _, H, I.tok _, ⟨_, rfl⟩, q⟩
      | bool b => exact repr_of_bool ⟨.str _, H, I.tok _, ⟨_, rfl⟩, q⟩
      | int i t => exact repr_of_int (of_decide_eq_true sh) ⟨.str _, H, I.tok _, ⟨_, rfl⟩, q⟩
      | str x t => exact repr_of_str ⟨.str _, H, I.tok _, ⟨_, rfl⟩, q⟩ ln
      | list => exact absurd ⟨_, rfl⟩ hr
      | tuple => exact absurd ⟨_, rfl⟩ hr
      | dict => exact absurd ⟨_, rfl⟩ hr
theorem XC.repr {K : PySem.W.Frag} {M : Mem} {k : D → Mem → Prop} {x d : D} {n : Nat} (hx : SeAt M x d) (ok : okD n d = true) (hn : n ≤ 60) (sh : d.py.showable = true) (nd : d.py.hasDict = false) (ln : d.py.shown.length ≤ sizeLine) (q : k (.str d.py.shown) M) :
    XC K (rRepr K) [x] M k := fun F H vs s r Q g => by
  cases r with
  | cons r1 r2 =>
    cases r2
    exact ⟨_, d.py, rfl, hx.dp s r1 ok, sh, nd, Nat.le_trans (okD_lay n d ok).2 hn, ln, g.now s (.str _) q⟩
end DL

namespace DL
open PySem PySem.Spec PyProof.Rows L2
/-! z * n for a text; list(z) -/
def rMulS : R2 := fun x y H Q => ∃ (a : Str) (n : Int), x = .str a ∧ y = .int n ∧ MulOk a n ∧ Q (.str (Txt.mul a n)) H
theorem op_mulS {X : Cx} : OpR X (binaryOp .Mult) rMulS := by
  intro pins s σ H x y v u Q I rx ry hq
  obtain ⟨a, n, rfl, rfl, ok, q⟩ := hq
  obtain ⟨t, rfl⟩ := rx
  obtain ⟨t', rfl⟩ := ry
  exact SB.mul ok fun t2 k => ⟨.str _, H, I.kept (t' := k) fun _ _ z => z, ⟨_, rfl⟩, q⟩
theorem XR.mulS {K : PySem.W.Frag} {M : Mem} {k : D → Mem → Prop} {a : Str} {n : Int} (ok : MulOk a n) (q : k (.str (Txt.mul a n)) M) : XR K rMulS (.str a) (.int n) M k := fun F H v u s r1 r2 Q g => by
  cases r1
  cases r2
  exact ⟨a, n, rfl, rfl, ok, g.now s (.str _) q⟩
def rLstS : List V → Hp → VK → Prop := fun xs H Q => ∃ a : Str, xs = [.str a] ∧ a.length ≤ sizeLine ∧ ∀ l, H l = none → Q (.ref l) (upd H l (.lst (a.cps.toList.map fun c => V.str ⟨#[c]⟩)))
theorem paired_get {α β : Type} {R : α → β → Prop} : ∀ {xs : List α} {ys : List β}, xs.length = ys.length → (∀ (j : Nat) x y, xs[j]? = some x → ys[j]? = some y → R x y) → Paired R xs ys
  | [], [], _, _ => .nil
  | [], _ :: _, h, _ => by simp at h
  | _ :: _, [], h, _ => by simp at h
  | x :: xs, y :: ys, h, f => .cons (f 0 x y rfl rfl) (paired_get (by simpa using h) fun j a b h1 h2 => f (j + 1) a b (by simpa using h1) (by simpa using h2))
theorem vals_signs {x : Str} {acc : Array Value} (h : ItemsOf (SignAt x) acc x.cps.size) : Vals (x.cps.toList.map fun c => V.str ⟨#[c]⟩) acc.toList := by
  refine paired_get (by simp [h.1]) fun j a b h1 h2 => ?_
  rw [List.getElem?_map, Option.map_eq_some_iff] at h1
  obtain ⟨c, hc, rfl⟩ := h1
  obtain ⟨c', u, hc', rfl⟩ := h.2 j b (by simpa using h2)
  have e : c = c' := by
    have : x.cps[j]? = some c := by simpa using hc
    rw [hc'] at this
    cases this
    rfl
  rw [e]
  exact ⟨u, rfl⟩
theorem cr_lstS {X : Cx} (hc : X.calm = true) : CallR X (.type "list") rLstS := by
  intro pins s σ H xs us Q I r h
  obtain ⟨a, rfl, hl, q⟩ := h
  cases r with
  | cons rx rr =>
    cases rr
    obtain ⟨t, rfl⟩ := rx
    refine call_list_str (I.ok.hd hc) a t (fun h' tk acc' c' hk hS' hacc => ?_) hl
    refine ⟨.ref s.heap.objs.size, _, I.laid (t' := tk) hk (Nat.le_refl _) (show ObjOk X.prog X.w _ h' _ (.lst (a.cps.toList.map fun c => V.str ⟨#[c]⟩)) from ⟨by rw [List.length_map]; exact hl, acc'.toList, c', vals_signs hacc, by simpa using hS'⟩), rfl, q _ (I.hok.fresh (Nat.le_refl _))⟩
theorem reps_signs {K : PySem.W.Frag} {F : Hp} : ∀ l : List Nat, Reps K F (l.map fun c => D.str ⟨#[c]⟩) (l.map fun c => V.str ⟨#[c]⟩)
  | [] => .nil
  | c :: r => .cons (.str _) (reps_signs r)
theorem XC.lstS {K : PySem.W.Frag} {M : Mem} {k : D → Mem → Prop} {a : Str} (hl : a.length ≤ 16000000) (q : k (.lst (a.cps.toList.map fun c => D.str ⟨#[c]⟩)) M) : XC K rLstS [.str a] M k := fun F H vs s r Q g => by
  cases r with
  | cons r1 r2 =>
    cases r2
    cases r1
    refine ⟨a, rfl, sz hl, fun l hn => ?_⟩
    have n2 := Nxt.newF s (o := .lst (a.cps.toList.map fun c => V.str ⟨#[c]⟩)) hn
    exact g _ _ _ _ _ n2 (.lst upd_same (reps_signs _)) q
/-- x[::-1] of a list -/
theorem pe_revK {K : PySem.W.Frag} {X : Cx} (h : X.K = K) {e : Expr} {te : TE} {k p1 p2 p3 pos} (he : PE X e te) : PE X (.Subscript e (.Slice none none (some (.UnaryOp .USub (.Constant (.int 1) k p1) p2)) p3) pos) (tRevL K te) := by
  subst h
  exact pe_revL he
theorem XE.rev {C : Cfg} {ds : DS} {M : Mem} {k : D → Mem → Prop} {te : TE} (h : XE C te ds M fun x M1 => ∃ xs, LsAt M1 x xs ∧ k (.lst xs.reverse) M1) : XE C (tRevL C.K te) ds M k := fun F H σ s e c Q g =>
  h F H σ s e c _ fun x M1 v F1 H1 n1 r1 h1 => by
    obtain ⟨xs, hx, q⟩ := h1
    obtain ⟨a, vs, rfl, h1, q1⟩ := hx.get n1.st r1
    refine ⟨a, vs, rfl, SqL.of h1, fun p hp => ?_⟩
    have n2 := Nxt.newF n1.st (o := .lst vs.reverse) hp
    exact g _ _ _ _ _ (n1.trans n2) (.lst upd_same ((q1.mono n2.ex).reverse)) q
theorem XM.startswith {K : PySem.W.Frag} {M : Mem} {k : D → Mem → Prop} {a b : Str} (q : k (.bl (Txt.startswith a b)) M) : XM K (fun x xs H Q => ∃ a b, x = .str a ∧ xs = [.str b] ∧ Q (.bl (Txt.startswith a b)) H) (.str a) [.str b] M k := fun F H v vs s r1 r2 Q g => by
  cases r1
  cases r2 with
  | cons r2 r3 =>
    cases r3
    cases r2
    exact ⟨a, b, rfl, rfl, g.now s (.bl _) q⟩
theorem XM.sindex {K : PySem.W.Frag} {M : Mem} {k : D → Mem → Prop} {a b : Str} {i : Nat} {rest : List Nat} (ho : Builtin.Str.occurrences a b 0 a.length 1 = i :: rest) (q : k (.int i) M) :
    XM K (fun x xs H Q => ∃ a b i rest, x = .str a ∧ xs = [.str b] ∧ Builtin.Str.occurrences a b 0 a.length 1 = i :: rest ∧ Q (.int (i : Nat)) H) (.str a) [.str b] M k := fun F H v vs s r1 r2 Q g => by
  cases r1
  cases r2 with
  | cons r2 r3 =>
    cases r3
    cases r2
    exact ⟨a, b, i, rest, rfl, rfl, ho, g.now s (.int _) q⟩
end DL
namespace DL
open PySem PySem.Spec PyProof.Rows L2
/-- {} that nobody changes -/
theorem XE.dnew0 {C : Cfg} {ds : DS} {M : Mem} {k : D → Mem → Prop} (h : k (.dct []) M) : XE C tDNewK ds M k := fun F H σ s e c Q g => by
  intro p hp
  have n2 := Nxt.newF s (o := .dK []) hp
  exact g _ _ _ _ _ n2 (.dct upd_same .nil) h
theorem XE.dnewM {C : Cfg} {ds : DS} {M : Mem} {k : D → Mem → Prop} (h : ∀ p, p ∉ dom M → k (.raw p) ((p, .dct []) :: M)) : XE C tDNewK ds M k := fun F H σ s e c Q g => by
  intro p hp
  have n2 := Nxt.newM s (o := .dK []) (m := .dct []) hp ⟨[], rfl, .nil⟩
  exact g _ _ _ _ _ n2 (.raw p) (h p (s.out hp))
theorem pxF {P : Program} {w : World} {K : PySem.W.Frag} {mg : Str → Option Value} {base : Heap} {N : List Str} {qual : Str} {sc : Scope} {f : Addr} {cdv : Value} {A : Around} {outer : List Env} {s : Shared} {H : Hp} {E : XK} :
    Passes (L2.CX P w) (cxOf (L2.CX P w) P w K mg base N qual sc f cdv A outer s H E) (fun _ _ _ => False) := passes_call (takes_of rfl rfl rfl rfl) fun _ _ _ _ h => h.elim
end DL
namespace DL
open PySem SX
theorem startsNeg (l : List Nat) : Txt.startswith (S l) (S [45]) = isNeg l := by
  unfold Txt.startswith isNeg Builtin.Str.subAt
  cases l with
  | nil => rfl
  | cons c r =>
    simp [Str.length]
    rw [Bool.eq_iff_iff]
    simp
theorem den_gcd {n d : Int} (h : 1 ≤ d) : (((Rat.divInt n d).den : Int) = d) ↔ Int.gcd n d = 1 := by
  rw [Rat.den_divInt, if_neg (by omega), Int.gcd_comm]
  have hg : 0 < Int.gcd n d := Int.gcd_pos_of_ne_zero_right _ (by omega)
  have hd : Int.gcd n d ∣ d.natAbs := by
    have := Int.gcd_dvd_right (a := n) (b := d)
    have q := Int.natAbs_dvd_natAbs.mpr this
    rwa [Int.natAbs_natCast] at q
  constructor
  · intro h2
    have e : d.natAbs / Int.gcd n d = d.natAbs := by omega
    obtain ⟨k, hk⟩ := hd
    rw [hk, Nat.mul_div_cancel_left _ hg] at e
    have hk0 : 0 < k := by
      cases k with
      | zero => omega
      | succ k => omega
    exact Nat.eq_of_mul_eq_mul_right hk0 (by rw [Nat.one_mul]; exact e.symm)
  · intro h2
    rw [h2, Nat.div_one]
    omega
theorem atI_last1 {α : Type} {xs : List α} {x : α} (h : xs.getLast? = some x) : L2.atI xs (-1) = some x := by
  obtain ⟨ys, rfl⟩ := List.getLast?_eq_some_iff.mp h
  exact L2.atI_last ys x
end DL
namespace DL
open PySem L2
theorem XC.reprI {K : PySem.W.Frag} {M : Mem} {k : D → Mem → Prop} {i : Int} (hi : i.natAbs.log2 < 1920) (q : k (.str (toString i)) M) :
    XC K (fun xs H Q => ∃ i, xs = [V.int i] ∧ i.natAbs.log2 < 1920 ∧ Q (V.str (Str.ofString (toString i))) H) [.int i] M k := fun F H vs s r Q g => by
  cases r with
  | cons r1 r2 =>
    cases r2
    cases r1
    exact ⟨i, rfl, hi, g.now s (.str _) q⟩
end DL

namespace DL
open PySem PySem.Spec PyProof.Rows L2 SX
theorem cutS_from (l : List Nat) (n : Nat) : cutS (S l) (some (n : Int)) none = S (l.drop n) := by
  have e := cutD_from l n
  unfold cutD at e
  unfold cutS
  rw [SX.S_len]
  exact congrArg S e
theorem cutS_to (l : List Nat) (n : Nat) : cutS (S l) none (some (n : Int)) = S (l.take n) := by
  have e := cutD_to l n
  unfold cutD at e
  unfold cutS
  rw [SX.S_len]
  exact congrArg S e
theorem Uni.app {a b : List Nat} (h : Uni a) (h2 : Uni b) : Uni (a ++ b) := fun c hc => (List.mem_append.mp hc).elim (h c) (h2 c)
theorem Uni.take {a : List Nat} (h : Uni a) (n : Nat) : Uni (a.take n) := fun c hc => h c (List.mem_of_mem_take hc)
theorem Uni.drop {a : List Nat} (h : Uni a) (n : Nat) : Uni (a.drop n) := fun c hc => h c (List.mem_of_mem_drop hc)
end DL
namespace DL
open PySem L2
theorem enumD_get {xs : List D} {i : Nat} {x : D} (h : (enumD xs)[i]? = some x) : ∃ d, xs[i]? = some d ∧ x = .tup [.int (i : Nat), d] := by
  unfold enumD at h
  rw [List.getElem?_mapIdx] at h
  obtain ⟨d, h1, h2⟩ := Option.map_eq_some_iff.mp h
  exact ⟨d, h1, h2.symm⟩
theorem enumD_len (xs : List D) : (enumD xs).length = xs.length := by unfold enumD; rw [List.length_mapIdx]
theorem tabL_uni' {ks : List Kn} : Uni (tabL ks) := tabL_uni
end DL

namespace DL
open PySem PySem.Spec PyProof.Rows L2 SX
/-! repr of data: that it can be shown, and how long it is -/
structure Shn (n : Nat) (d : D) : Prop where
  sh : d.py.showable = true
  nd : d.py.hasDict = false
  ln : d.py.shown.length ≤ n
theorem Shn.mono {n m : Nat} {d : D} (h : Shn n d) (hm : n ≤ m) : Shn m d := ⟨h.sh, h.nd, Nat.le_trans h.ln hm⟩
theorem cat_len (a b : Str) : (a ++ b).length = a.length + b.length := strLen_append a b
theorem textFrom_le : ∀ (ts : List Str) (k : Nat) (acc : Str), (textFrom k acc ts).length ≤ acc.length + (ts.map fun t => t.length + 2).sum
  | [], k, acc => by simp [textFrom]
  | t :: r, k, acc => by
    have h := textFrom_le r (k + 1) (acc ++ (if k > 0 then ", " else "" : String) ++ t)
    have e : ((if k > 0 then ", " else "" : String) : Str).length ≤ 2 := by split <;> decide
    show (textFrom (k + 1) _ r).length ≤ _
    rw [cat_len, cat_len] at h
    rw [List.map_cons, List.sum_cons]
    omega
theorem listText_le (ts : List Str) : (listText ts).length ≤ (ts.map fun t => t.length + 2).sum + 2 := by
  unfold listText
  have h := textFrom_le ts 0 "["
  rw [cat_len]
  have e1 : (("[" : String) : Str).length = 1 := rfl
  have e2 : (("]" : String) : Str).length = 1 := rfl
  rw [e1] at h
  rw [e2]
  omega
theorem tupleText_le (ts : List Str) : (tupleText ts).length ≤ (ts.map fun t => t.length + 2).sum + 3 := by
  have e1 : (("(" : String) : Str).length = 1 := rfl
  have e2 : ((if ts.length == 1 then ",)" else ")" : String) : Str).length ≤ 2 := by split <;> decide
  unfold tupleText
  rw [cat_len, cat_len]
  by_cases h : ts = []
  · subst h
    decide
  · have h2 := join_length_add ts h
    unfold piled at h2
    rw [e1]
    omega
theorem shownAll_sum {n : Nat} : ∀ xs : List D, (∀ x ∈ xs, Shn n x) → ((PyData.shownAll (pyAll xs)).map fun t => t.length + 2).sum ≤ xs.length * (n + 2)
  | [], _ => by simp [pyAll, PyData.shownAll]
  | x :: xs, h => by
    have h1 := shownAll_sum xs fun y hy => h y (List.mem_cons_of_mem _ hy)
    have h2 := (h x List.mem_cons_self).ln
    simp only [pyAll, PyData.shownAll, List.map_cons, List.sum_cons, List.length_cons, Nat.succ_mul]
    omega
theorem shows_all {n : Nat} : ∀ xs : List D, (∀ x ∈ xs, Shn n x) → PyData.showableAll (pyAll xs) = true ∧ PyData.hasDictAll (pyAll xs) = false
  | [], _ => ⟨rfl, rfl⟩
  | x :: xs, h => by
    have h1 := shows_all xs fun y hy => h y (List.mem_cons_of_mem _ hy)
    have h2 := h x List.mem_cons_self
    simp only [pyAll, PyData.showableAll, PyData.hasDictAll, h1, h2.sh, h2.nd, Bool.and_self, Bool.or_self, and_self]
theorem Shn.tup {n : Nat} {xs : List D} (h : ∀ x ∈ xs, Shn n x) : Shn (xs.length * (n + 2) + 3) (.tup xs) := by
  have h1 := shows_all xs h
  refine ⟨by simpa [D.py, PyData.showable] using h1.1, by simpa [D.py, PyData.hasDict] using h1.2, ?_⟩
  have h2 := shownAll_sum xs h
  have h3 := tupleText_le (PyData.shownAll (pyAll xs))
  simp only [D.py, PyData.shown]
  omega
theorem Shn.lst {n : Nat} {xs : List D} (h : ∀ x ∈ xs, Shn n x) : Shn (xs.length * (n + 2) + 2) (.lst xs) := by
  have h1 := shows_all xs h
  refine ⟨by simpa [D.py, PyData.showable] using h1.1, by simpa [D.py, PyData.hasDict] using h1.2, ?_⟩
  have h2 := shownAll_sum xs h
  have h3 := listText_le (PyData.shownAll (pyAll xs))
  simp only [D.py, PyData.shown]
  omega
theorem intL_le {i : Int} {k : Nat} (hk : 0 < k) (h : i.natAbs < 10 ^ k) : (intL i).length ≤ k + 1 := by
  have := TL.numL_len (k := k) hk h
  unfold intL
  split
  · rw [List.length_cons]; omega
  · omega
theorem Shn.int {i : Int} {k : Nat} (hk : 0 < k) (h : i.natAbs < 10 ^ k) (hl : k ≤ 480) : Shn (k + 1) (.int i) := by
  refine ⟨?_, rfl, ?_⟩
  · show decide (i.natAbs.log2 < 1920) = true
    refine decide_eq_true (PySem.Flt.log2_lt_of (by decide) (Nat.lt_of_lt_of_le h ?_))
    have h1 : (10 : Nat) ^ k ≤ 16 ^ k := Nat.pow_le_pow_left (by decide) k
    have h2 : (16 : Nat) ^ k = 2 ^ (4 * k) := by rw [Nat.pow_mul]
    have h3 : (2 : Nat) ^ (4 * k) ≤ 2 ^ 1920 := Nat.pow_le_pow_right (by decide) (by omega)
    omega
  · show (Str.ofString (toString i)).length ≤ _
    rw [toString_S, SX.S_len]
    exact intL_le hk h
theorem Shn.non : Shn 4 .non := ⟨rfl, rfl, by decide⟩
theorem Shn.dQ {q : Rat} (h : Short q) : Shn 129 (dQ q) := by
  have h2 := Shn.tup (n := 61) (xs := [.int q.num, .int (q.den : Int)]) fun x hx => by
    simp only [List.mem_cons, List.not_mem_nil, or_false] at hx
    rcases hx with rfl | rfl
    · exact Shn.int (by decide) h.1 (by decide)
    · exact Shn.int (by decide) (by rw [Int.natAbs_natCast]; exact h.2) (by decide)
  exact h2
theorem Shn.dKn {q : Kn} (h1 : Short q.1) (h2 : Short q.2) : Shn 265 (dKn q) := by
  have h3 := Shn.tup (n := 129) (xs := [DL.dQ q.1, DL.dQ q.2]) fun x hx => by
    simp only [List.mem_cons, List.not_mem_nil, or_false] at hx
    rcases hx with rfl | rfl
    · exact Shn.dQ h1
    · exact Shn.dQ h2
  exact h3
/-! what is read is short -/
theorem fracN_short {neg : Bool} {ns : List (Option Nat)} {q : Rat} (h : fracN neg ns = some q) (hn : ∀ n, some n ∈ ns → n < 10 ^ 60) : Short q := by
  have key : ∀ (n : Nat) (d : Nat), n < 10 ^ 60 → d < 10 ^ 60 → 0 < d → Short (Rat.divInt (if neg then -(n : Int) else n) d) := fun n d h1 h2 h3 => by
    have e1 := divInt_num_abs (if neg then -(n : Int) else n) d
    have e2 := divInt_den_le (if neg then -(n : Int) else n) d (by omega)
    have e3 : (if neg then -(n : Int) else n).natAbs = n := by split <;> omega
    rw [e3] at e1
    exact ⟨by omega, by omega⟩
  match ns, h with
  | [some n], h =>
    simp only [fracN] at h
    split at h
    · cases h
    · cases h
      exact key n 1 (hn n (by simp)) (by decide) (by decide)
  | [some n, some d], h =>
    rw [fracN_two] at h
    by_cases c1 : d < 2
    · rw [if_pos c1] at h; cases h
    rw [if_neg c1] at h
    by_cases c2 : neg = true ∧ n = 0
    · rw [if_pos c2] at h; cases h
    rw [if_neg c2] at h
    by_cases c3 : Int.gcd (if neg then -(n : Int) else n) d = 1
    · rw [if_pos c3] at h
      cases h
      exact key n d (hn n (by simp)) (hn d (by simp)) (by omega)
    · rw [if_neg c3] at h
      cases h
theorem fracOf_short {l : List Nat} {q : Rat} (h : fracOf l = some q) : Short q := by
  unfold fracOf at h
  refine fracN_short h fun n hn => ?_
  obtain ⟨w, _, e⟩ := List.mem_map.mp hn
  exact numOf_lt e
theorem knotOf_short {l : List Nat} {k : Kn} (h : knotOf l = some k) : Short k.1 ∧ Short k.2 := by
  rcases knotOf_eq l with ⟨_, _, a, b, e, e2⟩ | ⟨_, e⟩
  · rw [e2] at h
    cases h
    have h1 : some a ∈ (spl1 58 l).map fracOf := by rw [e]; simp
    have h2 : some b ∈ (spl1 58 l).map fracOf := by rw [e]; simp
    obtain ⟨w, _, e1⟩ := List.mem_map.mp h1
    obtain ⟨v, _, e2⟩ := List.mem_map.mp h2
    exact ⟨fracOf_short e1, fracOf_short e2⟩
  · rw [e] at h
    cases h
theorem knotsOf_short {ws : List (List Nat)} {ks : List Kn} (h : knotsOf ws = some ks) : ∀ k ∈ ks, Short k.1 ∧ Short k.2 := fun k hk => by
  unfold knotsOf at h
  split at h
  · cases h
  · have e := allSome_iff.mp h
    have : some k ∈ ws.map knotOf := by rw [e]; exact List.mem_map.mpr ⟨k, hk, rfl⟩
    obtain ⟨w, _, e2⟩ := List.mem_map.mp this
    exact knotOf_short e2
end DL

namespace DL
open PySem PySem.Spec PyProof.Rows L2 SX
section
variable {P : Program} {w : World} {K : PySem.W.Frag} {mg : Str → Option Value} {base : Heap}
theorem fn_okGD {x qual : Str} {st : Stmt} {f : Addr} {fd : FuncData} {N ps : List Str} {k n : Nat} {sp : DSp} {dvs : List V} {kws : List (Str × V)} (F : FunD K x qual (defArgs st) (defBody st) (defScope st) dvs kws f fd) (S : FnScope N ps (defScope st)) (hn : ps.length = n)
    (body : ∀ (cdv : Value) (A : Around) (outer : List Env) (s : Shared) (H : Hp) (E : XK), Room k (A.deeper (envOfC qual (defScope st) s.heap.objs.size f cdv)) → (A.deeper (envOfC qual (defScope st) s.heap.objs.size f cdv)).guards = some [] →
      ∃ t, PSs (cxOf (L2.CX P w) P w K mg base N qual (defScope st) f cdv A outer s H E) (defBody st) t ∧
        ∀ ds M kk xx, ds.length = n → sp ds M kk xx → XS (cfg K E xx) t (dstart N ds) M { nx := fun _ M' => kk .non M', rt := kk }) :
    FnG P w K mg base (L2.CX P w) (k + 1) f fd ps (spD K n sp) := by
  refine fnG_of F S (fun vs H Q E h => (spD_len vs H Q E h).trans hn.symm) fun cdv A outer s H vs Q E hr hg h => ?_
  obtain ⟨Fz, M, ds, st, r, hl, h⟩ := h
  obtain ⟨t, ht, hx⟩ := body cdv A outer s H E hr hg
  refine ⟨t, ht, hx ds M _ _ hl h Fz H _ st (EnvR.begun r) (fun ds0 σ0 cls fs M' F' H' d n _ q ex => q d F' H' n ex) _ ⟨?_, ?_, ?_, ?_⟩⟩
  · exact fun ds' M' σ' F' H' n e q => q .non F' H' n .non
  · exact fun d M' v F' H' n r q => q v F' H' n r
  · exact fun ds' M' σ' F' H' n e q => False.elim q
  · exact fun ds' M' σ' F' H' n e q => False.elim q
end
end DL
namespace DL
open PySem PySem.Spec PyProof.Rows L2 SX
theorem foldl_rep (c : Nat) : ∀ (n : Nat) (acc : List Nat), ((List.replicate n (#[c] : Array Nat)).foldl (· ++ ·) acc.toArray) = (acc ++ List.replicate n c).toArray
  | 0, acc => by simp
  | n + 1, acc => by
    rw [List.replicate_succ, List.foldl_cons]
    have e : acc.toArray ++ #[c] = (acc ++ [c]).toArray := by simp
    rw [e, foldl_rep c n (acc ++ [c]), List.replicate_succ, List.append_assoc]
    rfl
theorem mul_S (c : Nat) {n : Nat} (h : 1 < n) : Txt.mul (S [c]) (n : Int) = S (List.replicate n c) := by
  unfold Txt.mul
  rw [if_neg (by omega)]
  have e1 : ((n : Int) == 1) = false := by
    rw [beq_eq_false_iff_ne]
    omega
  have e2 : ((S [c]).length == 0) = false := rfl
  rw [e1, e2, Bool.or_self, if_neg (by decide), Int.toNat_natCast]
  have := foldl_rep c n []
  rw [List.nil_append] at this
  show (⟨_⟩ : Str) = ⟨_⟩
  exact congrArg Str.mk this
theorem mulOk_S (c : Nat) {n : Nat} (h : n ≤ 1000000) : MulOk (S [c]) (n : Int) := by
  have e : (S [c]).length = 1 := rfl
  refine ⟨?_, fun h1 _ => ?_, fun h1 _ => ?_⟩
  · rw [Bool.or_eq_false_iff]
    exact ⟨decide_eq_false (by omega), decide_eq_false (by omega)⟩
  · rw [e]
    have : (1 : Int) ≤ (2 ^ 63 - 1) / (n : Int) := by
      rw [Int.le_ediv_iff_mul_le (by omega)]
      omega
    omega
  · rw [e, Int.toNat_natCast, Nat.one_mul]
    show decide (n > sizeLine) = false
    exact decide_eq_false (by have := sizeLine_eq; omega)
end DL
namespace DL
open PySem PySem.Spec PyProof.Rows L2
theorem ox_mk {K : PySem.W.Frag} {C : Addr} {nm q : Str} {N : Addr} {bs bm : List Value} {sn : List Str} {sub : List Value} {ab : Bool} {col : Option Bool} {dd : Option Addr} {k0 k1 k2 k3 k5 : Option Value}
    (l : K.lookup C = some (excClassObj nm q C N bs bm true sn sub ab col dd k0 k1 k2 k3 k5 "ValueError.__new__")) (e : PySem.HandSPX.refsVE bm = true)
    (sa : PySem.W.findIn K (.ref C) "__setattr__" = some (some (.builtin "object.__setattr__"))) (exC : PySem.W.subIn K (.ref C) (.type "BaseException") = some true) (tyC : PySem.W.typeIn K (.ref C) = some (.type "type")) (kC : PySem.W.keepIn K (.ref C) = true) : OexC K C :=
  ⟨⟨nm, q, N, bs, bm, sn, sub, ab, col, dd, k0, k1, k2, k3, k5, l, e⟩, sa, exC, tyC, kC⟩
end DL

namespace DL
open PySem PySem.Spec PyProof.Rows L2 SX
/-! ### dicts that stand still -/
def tFrzE (te : TE) : TE := fun σ H Q => te σ H fun v H1 => ∃ d u, v = .ref d ∧ H1 d = some u ∧ Mut (some u) ∧ ∀ od, Q v (upd H1 d (.frz od u))
theorem pe_frz {X : Cx} {e : Expr} {te : TE} (h : PE X e te) : PE X e (tFrzE te) := by
  refine ⟨fun pins s σ H Q I hw => thn (h.run pins s σ H _ I hw) fun v s1 hq => ?_⟩
  obtain ⟨x, H1, I1, r, d, u, ex, hd, mu, q⟩ := hq
  obtain ⟨od, I2⟩ := I1.lock hd mu
  exact ⟨x, _, I2, r, q od⟩
theorem frz_fdct {K : PySem.W.Frag} {F H : Hp} {M M' : Mem} (s : Stt K F H M) {p : Addr} {es : List (Key × D)} (h : Del M p (.dct es) M') :
    ∃ kvs, H p = some (.dK kvs) ∧ ∀ od, ∃ F', Nxt K F H M F' (upd H p (.frz od (.dK kvs))) M' ∧ Rep K F' (.fdct es) (.ref p) := by
  obtain ⟨h1, o, h2, kvs, rfl, r⟩ := s.at h.at
  refine ⟨kvs, h2, fun od => ⟨upd F p (.frz od (.dK kvs)), ?_, .fdct upd_same (r.mono (Ex.new h1))⟩⟩
  exact {
    st := ⟨s.ex.upd2, fun q hq => by
      obtain ⟨g1, u, g2, g3⟩ := s.mem q (h.sub.subset hq)
      have ne : q.1 ≠ p := fun z => h.out s.nd (by rw [← z]; exact List.mem_map.mpr ⟨q, hq, rfl⟩)
      exact ⟨by rw [upd_ne ne]; exact g1, u, by rw [upd_ne ne]; exact g2, g3.mono (Ex.new h1)⟩, s.nd.sublist (h.sub.map _)⟩
    ex := Ex.new h1
    fr := fun a u e n => by
      rw [upd_ne fun z => n (by rw [z]; exact List.mem_map.mpr ⟨_, h.at.mem, rfl⟩)]
      exact e
    nw := fun a e _ n _ => by
      rw [upd_ne fun z => n (by rw [z]; exact List.mem_map.mpr ⟨_, h.at.mem, rfl⟩)]
      exact e
    dm := fun a m => .inl ((h.sub.map (·.1)).subset m)
    tr := fun _ e => upd_some e }
section
variable {C : Cfg} {ds : DS} {M : Mem} {k : D → Mem → Prop} {te tk tv ta tb tc : TE} {P : Post} {K : PySem.W.Frag}
theorem XE.frz (h : XE C te ds M fun x M1 => ∃ p es M2, x = .raw p ∧ Del M1 p (.dct es) M2 ∧ k (.fdct es) M2) : XE C (tFrzE te) ds M k := fun F H σ s e c Q g =>
  h F H σ s e c _ fun x M1 v F1 H1 n1 r1 h1 => by
    obtain ⟨p, es, M2, rfl, hd, q⟩ := h1
    cases r1
    obtain ⟨kvs, hp, hf⟩ := frz_fdct n1.st hd
    refine ⟨p, _, rfl, hp, trivial, fun od => ?_⟩
    obtain ⟨F2, n2, r2⟩ := hf od
    exact g _ _ _ _ _ (n1.trans n2) r2 q
theorem RepK.get {F : Hp} : ∀ {es : List (Key × D)} {kvs : List (Key × V)} {i : Nat} {e : Key × D}, RepK K F es kvs → es[i]? = some e → ∃ v, kvs[i]? = some (e.1, v) ∧ Rep K F e.2 v
  | _, _, _, _, .nil, h => by simp at h
  | _, _, 0, _, .cons h _, e => by
    have e' := Option.some.inj e
    subst e'
    exact ⟨_, rfl, h⟩
  | _, _, i + 1, d, .cons _ r, e => RepK.get (i := i) r e
theorem map_get' {α β : Type} {f : α → β} {xs : List α} {i : Nat} {y : β} (h : (xs.map f)[i]? = some y) : ∃ x, xs[i]? = some x ∧ y = f x := by
  rw [List.getElem?_map] at h
  obtain ⟨x, h1, h2⟩ := Option.map_eq_some_iff.mp h
  exact ⟨x, h1, h2.symm⟩
theorem items_keys {F0 : Hp} {d : Addr} {o : Obj} {es : List (Key × D)} {kvs : List (Key × V)} (h : F0 d = some (.frz o (.dK kvs))) (r : RepK K F0 es kvs) : Items K F0 (Itk d o kvs) (es.map fun e => keyD e.1) := fun i F H M e s => by
  have hd := s.ex _ _ (e _ _ h)
  refine ⟨fun x hx => ?_, fun hl => ⟨hd, by rw [List.length_map] at hl; rw [← r.length]; exact hl⟩⟩
  obtain ⟨en, he, rfl⟩ := map_get' hx
  obtain ⟨v, hv, _⟩ := r.get he
  refine ⟨⟨hd, (List.getElem?_eq_some_iff.mp hv).1⟩, fun w H2 y => ?_⟩
  obtain ⟨rfl, k, v', hk, rfl⟩ := y
  rw [hv] at hk
  cases hk
  exact ⟨F, Nxt.refl s, Rep.ofKey _⟩
theorem items_vals {F0 : Hp} {d : Addr} {o : Obj} {es : List (Key × D)} {kvs : List (Key × V)} (h : F0 d = some (.frz o (.dK kvs))) (r : RepK K F0 es kvs) : Items K F0 (Itd d o kvs) (es.map fun e => e.2) := fun i F H M e s => by
  have hd := s.ex _ _ (e _ _ h)
  refine ⟨fun x hx => ?_, fun hl => ⟨hd, by rw [List.length_map] at hl; rw [← r.length]; exact hl⟩⟩
  obtain ⟨en, he, rfl⟩ := map_get' hx
  obtain ⟨v, hv, rv⟩ := r.get he
  refine ⟨⟨hd, (List.getElem?_eq_some_iff.mp hv).1⟩, fun w H2 y => ?_⟩
  obtain ⟨rfl, k, hk⟩ := y
  rw [hv] at hk
  cases hk
  exact ⟨F, Nxt.refl s, rv.mono e⟩
theorem items_items {F0 : Hp} {d : Addr} {o : Obj} {es : List (Key × D)} {kvs : List (Key × V)} (h : F0 d = some (.frz o (.dK kvs))) (r : RepK K F0 es kvs) : Items K F0 (Iti d o kvs) (es.map fun e => D.tup [keyD e.1, e.2]) := fun i F H M e s => by
  have hd := s.ex _ _ (e _ _ h)
  refine ⟨fun x hx => ?_, fun hl => ⟨hd, by rw [List.length_map] at hl; rw [← r.length]; exact hl⟩⟩
  obtain ⟨en, he, rfl⟩ := map_get' hx
  obtain ⟨v, hv, rv⟩ := r.get he
  refine ⟨⟨hd, (List.getElem?_eq_some_iff.mp hv).1⟩, fun w H2 y => ?_⟩
  obtain ⟨T, k, v', hk, rfl, hT, rfl⟩ := y
  rw [hv] at hk
  cases hk
  have n := Nxt.newF s (o := .tup [kV en.1, v]) hT
  exact ⟨_, n, .tup (.inl (.inl upd_same)) (.cons (Rep.ofKey _) (.cons ((rv.mono e).mono n.ex) .nil))⟩
variable {kl : List D → Mem → Prop}
theorem XI.keys (h : XE C te ds M fun x M1 => ∃ es, x = .fdct es ∧ kl (es.map fun e => keyD e.1) M1) : XI C (iKeys te) ds M kl := fun F H σ s e c R g =>
  h F H σ s e c _ fun x M1 v F1 H1 n1 r1 h1 => by
    obtain ⟨es, rfl, q⟩ := h1
    cases r1 with
    | @fdct a _ kvs o h2 q2 => exact ⟨a, o, rfl, .inl ⟨kvs, n1.st.ex _ _ h2, g _ M1 _ F1 H1 n1 (items_keys h2 q2) q⟩⟩
theorem XI.vals (h : XE C te ds M fun x M1 => ∃ es, x = .fdct es ∧ kl (es.map fun e => e.2) M1) : XI C (iVals te) ds M kl := fun F H σ s e c R g =>
  h F H σ s e c _ fun x M1 v F1 H1 n1 r1 h1 => by
    obtain ⟨es, rfl, q⟩ := h1
    cases r1 with
    | @fdct a _ kvs o h2 q2 => exact ⟨a, o, kvs, rfl, n1.st.ex _ _ h2, g _ M1 _ F1 H1 n1 (items_vals h2 q2) q⟩
theorem XI.items (h : XE C te ds M fun x M1 => ∃ es, x = .fdct es ∧ kl (es.map fun e => D.tup [keyD e.1, e.2]) M1) : XI C (iItems te) ds M kl := fun F H σ s e c R g =>
  h F H σ s e c _ fun x M1 v F1 H1 n1 r1 h1 => by
    obtain ⟨es, rfl, q⟩ := h1
    cases r1 with
    | @fdct a _ kvs o h2 q2 => exact ⟨a, o, kvs, rfl, n1.st.ex _ _ h2, g _ M1 _ F1 H1 n1 (items_items h2 q2) q⟩
/-- how a dict stands that is read: owned or still -/
inductive DgAt (M : Mem) : D → List (Key × D) → Prop
  | dct {kvs} : DgAt M (.dct kvs) kvs
  | fdct {kvs} : DgAt M (.fdct kvs) kvs
  | raw {p kvs} : At M p (.dct kvs) → DgAt M (.raw p) kvs
theorem DgAt.get {F H : Hp} {x : D} {es : List (Key × D)} {v : V} (h : DgAt M x es) (s : Stt K F H M) (r : Rep K F x v) : ∃ p kvs, v = .ref p ∧ Rd H p (.dK kvs) ∧ RepK K F es kvs := by
  cases h with
  | dct =>
    cases r with
    | dct h q => exact ⟨_, _, rfl, .inl (s.ex _ _ h), q⟩
  | fdct =>
    cases r with
    | fdct h q => exact ⟨_, _, rfl, .inr ⟨_, s.ex _ _ h⟩, q⟩
  | raw ha =>
    cases r
    obtain ⟨_, o, h1, vs, rfl, q⟩ := s.at ha
    exact ⟨_, _, rfl, .inl h1, q⟩
theorem DGet.kr {H : Hp} {a : Addr} {kvs : List (Key × V)} {k : Key} (e : Rd H a (.dK kvs)) : DGet H a (kV k) (valV kvs k) := .inl ⟨kvs, k, e, rfl, rfl⟩
theorem XE.dgetG (h : XE C ta ds M fun x M1 => XE C tb ds M1 fun y M2 => ∃ es q d, DgAt M2 x es ∧ y = keyD q ∧ valD es q = some d ∧ k d M2) : XE C (tDGet ta tb) ds M k := fun F H σ s e c Q g =>
  h F H σ s e c _ fun x M1 v F1 H1 n1 r1 h1 => h1 F1 H1 σ n1.st (e.mono n1.ex) (c.next n1) _ fun y M2 u F2 H2 n2 r2 h2 => by
    obtain ⟨es, q, d, hd, rfl, hv, hq⟩ := h2
    obtain ⟨p, kvs, rfl, hp, rk⟩ := hd.get n2.st (r1.mono n2.ex)
    obtain ⟨w, hw, rw'⟩ := (rk.val (q := q)).1 d hv
    have eu := r2.key
    subst eu
    refine ⟨p, w, rfl, ?_, g _ _ _ _ _ (n1.trans n2) rw' hq⟩
    rw [← hw]
    exact DGet.kr hp
theorem val_some {F : Hp} {es : List (Key × D)} {kvs : List (Key × V)} {q : Key} (rk : RepK K F es kvs) : (valV kvs q).isSome = (valD es q).isSome := by
  cases z : valD es q with
  | none =>
    rw [(rk.val (q := q)).2 z]
    rfl
  | some d =>
    obtain ⟨w, hw, _⟩ := (rk.val (q := q)).1 d z
    rw [hw]
    rfl
theorem XE.dinG (h : XE C tb ds M fun y M1 => XE C ta ds M1 fun x M2 => ∃ es q, DgAt M2 x es ∧ y = keyD q ∧ k (.bl (valD es q).isSome) M2) : XE C (tDIn tb ta) ds M k := fun F H σ s e c Q g =>
  h F H σ s e c _ fun y M1 u F1 H1 n1 r1 h1 => h1 F1 H1 σ n1.st (e.mono n1.ex) (c.next n1) _ fun x M2 v F2 H2 n2 r2 h2 => by
    obtain ⟨es, q, hd, rfl, hq⟩ := h2
    obtain ⟨p, kvs, rfl, hp, rk⟩ := hd.get n2.st r2
    have eu := r1.key
    subst eu
    refine ⟨p, _, rfl, DGet.kr hp, ?_⟩
    rw [val_some rk]
    exact g _ _ _ _ _ (n1.trans n2) (.bl _) hq
theorem XE.dniG (h : XE C tb ds M fun y M1 => XE C ta ds M1 fun x M2 => ∃ es q, DgAt M2 x es ∧ y = keyD q ∧ k (.bl (!(valD es q).isSome)) M2) : XE C (tDNotIn tb ta) ds M k := fun F H σ s e c Q g =>
  h F H σ s e c _ fun y M1 u F1 H1 n1 r1 h1 => h1 F1 H1 σ n1.st (e.mono n1.ex) (c.next n1) _ fun x M2 v F2 H2 n2 r2 h2 => by
    obtain ⟨es, q, hd, rfl, hq⟩ := h2
    obtain ⟨p, kvs, rfl, hp, rk⟩ := hd.get n2.st r2
    have eu := r1.key
    subst eu
    refine ⟨p, _, rfl, DGet.kr hp, ?_⟩
    rw [val_some rk]
    exact g _ _ _ _ _ (n1.trans n2) (.bl _) hq
/-! len, list, dict of dicts -/
def rLenR : List V → Hp → VK → Prop := fun xs H Q => ∃ a kvs, xs = [V.ref a] ∧ Rd H a (.dK kvs) ∧ Q (.int kvs.length) H
theorem rd_lenD {X : Cx} : CallR X (.builtin "len") rLenR := by
  intro pins s σ H xs us Q I r h
  obtain ⟨a, kvs, rfl, hd, q⟩ := h
  obtain ⟨u, eu, rx⟩ := vals1 r
  subst eu
  obtain rfl : u = Value.ref a := rx
  exact d_len I hd fun t s' I' => ⟨.int kvs.length, H, I', ⟨t, rfl⟩, q⟩
def rLenG (K : PySem.W.Frag) : List V → Hp → VK → Prop := fun xs H Q => rLenN K xs H Q ∨ rLenR xs H Q
theorem cr_lenG {X : Cx} (h : X.K = K) : CallR X (.builtin "len") (rLenG K) := by subst h; exact CallR.or call_len rd_lenD
theorem XC.lenS {y : D} {xs : List D} (hy : SqAt M y xs) (h : k (.int xs.length) M) : XC K (rLenG K) [y] M k := fun F H vs s r Q g => by
  rcases XC.len hy h F H vs s r Q g with q | q
  · exact .inl q
  · obtain ⟨a, kvs, e, hk, q⟩ := q
    exact .inr ⟨a, kvs, e, .inl hk, q⟩
theorem XC.lenT {z : Str} (hz : z.length ≤ 16000000) (h : k (.int z.length) M) : XC K (rLenG K) [.str z] M k := fun F H vs s r Q g => by
  rcases XC.len_str hz h F H vs s r Q g with q | q
  · exact .inl q
  · obtain ⟨a, kvs, e, hk, q⟩ := q
    exact .inr ⟨a, kvs, e, .inl hk, q⟩
theorem XC.lenD {y : D} {es : List (Key × D)} (hy : DgAt M y es) (h : k (.int es.length) M) : XC K (rLenG K) [y] M k := fun F H vs s r Q g => by
  cases r with
  | cons r1 r2 =>
    cases r2
    obtain ⟨a, kvs, rfl, h1, q1⟩ := hy.get s r1
    exact .inr ⟨a, kvs, rfl, h1, by rw [← q1.length]; exact g.now s (.int _) h⟩
/-- list(d) -/
def rListR : List V → Hp → VK → Prop := fun xs H Q => ∃ p kvs, xs = [.ref p] ∧ Rd H p (.dK kvs) ∧ ∀ q, H q = none → Q (.ref q) (upd H q (.lst (kvs.map fun kv => kV kv.1)))
theorem cr_listR {X : Cx} (hc : X.calm = true) : CallR X (.type "list") rListR := by
  intro pins s σ H xs us Q I r h
  obtain ⟨p, kvs, e, hk, q⟩ := h
  subst e
  obtain ⟨u, eu, rx⟩ := vals1 r
  subst eu
  obtain rfl : u = Value.ref p := rx
  obtain ⟨z, lo, vs, rk, hd⟩ := dk_rd I.hok hk
  obtain ⟨ep, hat⟩ := hd.dictAt
  have hl : kvs.length = vs.length := Paired.length rk
  refine PySem.W.kdl_call (PySem.W.kdl_dict (knd := mixKind X.prog X.w) (kvs := vs) (ep := ep) lo) (I.ok.hd hc) hat (by rw [← hl]; exact z) fun h' tk acc' c' hkeep hS hacc => ?_
  refine ⟨.ref s.heap.objs.size, upd H s.heap.objs.size (.lst (kvs.map fun kv => kV kv.1)), I.laid hkeep (Nat.le_refl _) (show ObjOk X.prog X.w _ _ _ (.lst (kvs.map fun kv => kV kv.1)) from ⟨?_, acc'.toList, c', ?_, ?_⟩), rfl, q _ (I.hok.fresh (Nat.le_refl _))⟩
  · rw [List.length_map]; exact z
  · have el : acc'.toList.length = acc'.size := by simp
    refine vals_of_at (by rw [List.length_map, el, hacc.1, hl]) fun j x w h1 h2 => ?_
    obtain ⟨k, y, hky, hi⟩ := hacc.2 j w (by rw [← Array.getElem?_toList]; exact h2)
    have e1 : (kvs.map (·.1))[j]? = some k := by
      rw [KV.keys rk, List.getElem?_map, hky] <;> rfl
    have e2 : (kvs.map fun kv => kV kv.1)[j]? = some (kV k) := by
      have e3 : (kvs.map fun kv => kV kv.1) = (kvs.map (·.1)).map kV := by rw [List.map_map] <;> rfl
      rw [e3, List.getElem?_map, e1] <;> rfl
    rw [e2] at h1
    cases h1
    exact keyIs_rel hi
  · rw [Array.toArray_toList]; exact hS
def rLstG (K : PySem.W.Frag) : List V → Hp → VK → Prop := fun xs H Q => rLstOf K xs H Q ∨ rListR xs H Q
theorem cr_lstG {X : Cx} (h : X.K = K) (hc : X.calm = true) : CallR X (.type "list") (rLstG K) := by subst h; exact CallR.or cr_lst (cr_listR hc)
theorem reps_keys {F : Hp} : ∀ {es : List (Key × D)} {kvs : List (Key × V)}, RepK K F es kvs → Reps K F (es.map fun e => keyD e.1) (kvs.map fun kv => kV kv.1)
  | _, _, .nil => .nil
  | _, _, .cons h r => .cons (Rep.ofKey _) (reps_keys r)
theorem XC.lstS2 {y : D} {xs : List D} (hy : SqAt M y xs) (h : k (.lst xs) M) : XC K (rLstG K) [y] M k := fun F H vs s r Q g => .inl (XC.lst hy h F H vs s r Q g)
theorem XC.lstM2 {y : D} {xs : List D} (hy : SqAt M y xs) (h : ∀ p, p ∉ dom M → k (.raw p) ((p, .lst xs) :: M)) : XC K (rLstG K) [y] M k := fun F H vs s r Q g => .inl (XC.lstM hy h F H vs s r Q g)
theorem XC.lstD {y : D} {es : List (Key × D)} (hy : DgAt M y es) (h : k (.lst (es.map fun e => keyD e.1)) M) : XC K (rLstG K) [y] M k := fun F H vs s r Q g => by
  cases r with
  | cons r1 r2 =>
    cases r2
    obtain ⟨p, kvs, rfl, hs, q1⟩ := hy.get s r1
    refine .inr ⟨p, kvs, rfl, hs, fun l hl => ?_⟩
    have n := Nxt.newF s (o := .lst (kvs.map fun kv => kV kv.1)) hl
    exact g _ _ _ _ _ n (.lst upd_same ((reps_keys q1).mono n.ex)) h
theorem XC.lstDM {y : D} {es : List (Key × D)} (hy : DgAt M y es) (h : ∀ p, p ∉ dom M → k (.raw p) ((p, .lst (es.map fun e => keyD e.1)) :: M)) : XC K (rLstG K) [y] M k := fun F H vs s r Q g => by
  cases r with
  | cons r1 r2 =>
    cases r2
    obtain ⟨p, kvs, rfl, hs, q1⟩ := hy.get s r1
    refine .inr ⟨p, kvs, rfl, hs, fun l hl => ?_⟩
    have n := Nxt.newM s (o := .lst (kvs.map fun kv => kV kv.1)) (m := .lst (es.map fun e => keyD e.1)) hl ⟨_, rfl, reps_keys q1⟩
    exact g _ _ _ _ _ n (.raw l) (h l (s.out hl))
/-! dict([(k, v), ..]) -/
def rDictP (K : PySem.W.Frag) : List V → Hp → VK → Prop := fun xs H Q => ∃ (a : Addr) (ps : List Addr) (kvs : List (Key × V)), xs = [.ref a] ∧ SqL K H a (ps.map V.ref) ∧ Paired (fun p kv => SqT K H p [kV kv.1, kv.2]) ps kvs ∧ ∀ p, H p = none → Q (.ref p) (upd H p (.dK (mergeK [] kvs)))
theorem cr_dictP {X : Cx} (h : X.K = K) (hc : X.calm = true) : CallR X (.type "dict") (rDictP K) := by subst h; exact call_dictP hc
theorem pairs_get {F : Hp} : ∀ {es : List (Key × D)} {vs : List V}, Reps K F (es.map fun e => D.tup [keyD e.1, e.2]) vs → ∃ (ps : List Addr) (kvs : List (Key × V)), vs = ps.map V.ref ∧ Paired (fun p kv => SqT K F p [kV kv.1, kv.2]) ps kvs ∧ RepK K F es kvs
  | [], _, .nil => ⟨[], [], rfl, .nil, .nil⟩
  | e :: es, _, .cons h r => by
    obtain ⟨ps, kvs, e1, h1, h2⟩ := pairs_get r
    cases h with
    | @tup a vs _ ht hq =>
      cases hq with
      | @cons _ v1 _ _ r1 r2 =>
        cases r2 with
        | @cons _ v2 _ _ r2 r3 =>
          cases r3
          have ek := r1.key
          subst ek
          exact ⟨a :: ps, (e.1, v2) :: kvs, by rw [e1]; rfl, .cons ht h1, .cons r2 h2⟩
theorem XC.dictP {y : D} {es : List (Key × D)} (hy : LsAt M y (es.map fun e => D.tup [keyD e.1, e.2])) (h : ∀ p, p ∉ dom M → k (.raw p) ((p, .dct (mergeD es)) :: M)) : XC K (rDictP K) [y] M k := fun F H vs s r Q g => by
  cases r with
  | cons r1 r2 =>
    cases r2
    obtain ⟨p, us, rfl, h1, q1⟩ := hy.get s r1
    obtain ⟨ps, kvs, rfl, hp, rk⟩ := pairs_get q1
    refine ⟨p, ps, kvs, rfl, SqL.of h1, L2.Paired.mapP hp fun _ _ z => ex_t s.ex z, fun l hl => ?_⟩
    have n := Nxt.newM s (o := .dK (mergeK [] kvs)) (m := .dct (mergeD es)) hl ⟨_, rfl, RepK.merge rk .nil⟩
    exact g _ _ _ _ _ n (.raw l) (h l (s.out hl))
/-! all, sum, index -/
theorem XC.all {bs : List Bool} {y : D} (hy : LsAt M y (bs.map D.bl)) (h : k (.bl (bs.all id)) M) : XC K (rAll K) [y] M k := fun F H vs s r Q g => by
  cases r with
  | cons r1 r2 =>
    cases r2
    obtain ⟨p, us, rfl, h1, q1⟩ := hy.get s r1
    have e := Reps.bls q1
    subst e
    exact ⟨p, bs, rfl, SqL.of h1, g.now s (.bl _) h⟩
theorem XC.sum {ns : List Int} {y : D} (hy : LsAt M y (ns.map D.int)) (h : k (.int ns.sum) M) : XC K (rSum K) [y] M k := fun F H vs s r Q g => by
  cases r with
  | cons r1 r2 =>
    cases r2
    obtain ⟨p, us, rfl, h1, q1⟩ := hy.get s r1
    have e := Reps.ints q1
    subst e
    exact ⟨p, ns, rfl, SqL.of h1, g.now s (.int _) h⟩
theorem XM.indexS {ns : List Str} {y : D} {x : Str} {j : Nat} (hy : LsAt M y (ns.map D.str)) (hj : ns[j]? = some x) (hm : ∀ (m : Nat) z, m < j → ns[m]? = some z → z ≠ x) (h : k (.int (j : Nat)) M) : XM K (rIndex K) y [.str x] M k := fun F H v vs s r1 r2 Q g => by
  cases r2 with
  | cons r2 r3 =>
    cases r3
    cases r2
    obtain ⟨p, us, rfl, h1, q1⟩ := hy.get s r1
    have e := Reps.strs q1
    subst e
    refine ⟨p, ns.map V.str, .str x, j, .str x, rfl, rfl, SqL.of h1, rfl, ?_, ?_, ?_, fun m z' hlt hz => ?_, g.now s (.int _) h⟩
    · rw [List.all_eq_true]
      intro z hz
      obtain ⟨w, _, rfl⟩ := List.mem_map.mp hz
      rfl
    · rw [List.getElem?_map, hj]
      rfl
    · show (x == x) = true
      exact beq_self_eq_true x
    · rw [List.getElem?_map] at hz
      obtain ⟨w, hw, rfl⟩ := Option.map_eq_some_iff.mp hz
      show (w == x) = false
      rw [beq_eq_false_iff_ne]
      exact hm m w hlt hw
end
end DL

namespace DL
open PySem PySem.Spec PyProof.Rows L2 SX
section
variable {C : Cfg} {ds : DS} {M : Mem} {k : D → Mem → Prop} {te tk tv ta tb tc td ty : TE} {P : Post} {K : PySem.W.Frag}
theorem XE.dc {wi : TI} {g : TG} {tt : TT} {vs : List Nat} (h : XI C wi ds M fun xs M1 => ∃ I : Nat → List (Key × D) → Mem → Prop, I 0 [] M1 ∧
    (∀ i x acc M', xs[i]? = some x → I i acc M' → XG C.nox g x (dwipe ds vs) M' vs fun ds2 M2 => XT C.nox tt ds2 M2 fun b M3 => (b = true → XE C.nox tk ds2 M3 fun y M4 => XE C.nox tv ds2 M4 fun z M5 => ∃ q, y = keyD q ∧ acc.length < 16000000 ∧ I (i + 1) (putDK acc q z) M5) ∧ (b = false → I (i + 1) acc M3)) ∧
    ∀ acc M', I xs.length acc M' → ∀ p, p ∉ dom M' → k (.raw p) ((p, .dct acc) :: M')) : XE C (tDc wi g tt tk tv vs) ds M k := fun F H σ s e c Q gq =>
  h F H σ s e c _ fun xs M1 J F1 H1 n1 it h1 => by
    obtain ⟨I, h0, hs, hd⟩ := h1
    intro L hL
    have nL := Nxt.newM n1.st (o := .dK []) (m := .dct []) hL ⟨[], rfl, .nil⟩
    refine ⟨fun i m H' => m + i = xs.length ∧ i ≤ xs.length ∧ ∃ acc M' F', Nxt C.K F H M F' H' ((L, .dct acc) :: M') ∧ Ex F1 F' ∧ I i acc M', ⟨xs.length, rfl, Nat.zero_le _, [], M1, F1, n1.trans nL, Ex.refl _, h0⟩, fun i m H' w => ?_⟩
    obtain ⟨hm, hi, acc, M', F', n, ex, hI⟩ := w
    have sM : Stt C.K F' H' M' := (show Stt C.K F' H' ([(L, MO.dct acc)] ++ M') from n.st).part
    by_cases hlt : i < xs.length
    · have hx : xs[i]? = some xs[i] := List.getElem?_eq_getElem hlt
      obtain ⟨go, yl⟩ := (it i F' H' M' ex sM).1 _ hx
      refine .inr ⟨go, fun H2 => ∃ acc M2 F2, Nxt C.K F H M F2 H2 ((L, .dct acc) :: M2) ∧ Ex F1 F2 ∧ I (i + 1) acc M2, fun H2 w => ⟨m - 1, by omega, by omega, hlt, w⟩, fun v H2 y => ?_⟩
      obtain ⟨F2, n2, r2⟩ := yl v H2 y
      have lift : ∀ {Fb Hb : Hp} {Mb : Mem}, Nxt C.K F' H' M' Fb Hb Mb → Nxt C.K F H M Fb Hb ((L, .dct acc) :: Mb) := fun na => n.trans (Nxt.whole (Mr := [(L, MO.dct acc)]) n.st na)
      refine hs i _ acc M' hx hI F2 H2 _ v n2.st (((e.mono n.ex).mono n2.ex).wipe vs) Cov.nox r2 _ fun d3 M3 σ3 F3 H3 n3 e3 l3 w3 h3 => ?_
      have n23 := n2.trans n3
      refine ⟨wipe_same l3 w3, h3 F3 H3 σ3 n3.st e3 Cov.nox _ fun b M4 F4 H4 n4 h4 => ?_⟩
      have n24 := n23.trans n4
      cases b with
      | true =>
        show tk σ3 H4 _
        refine h4.1 rfl F4 H4 σ3 n4.st (e3.mono n4.ex) Cov.nox _ fun y M5 vy F5 H5 n5 r5 h5 => ?_
        refine h5 F5 H5 σ3 n5.st (e3.mono (n4.trans n5).ex) Cov.nox _ fun z M6 vz F6 H6 n6 r6 h6 => ?_
        obtain ⟨q, rfl, hl, hI2⟩ := h6
        have n26 := (n24.trans n5).trans n6
        have N := lift n26
        have ek := r5.key
        subst ek
        obtain ⟨_, o, hp, us, rfl, qk⟩ := N.st.at At.hd
        have np := Nxt.put N.st (o := .dK (putK us q vz)) (m' := .dct (putDK acc q z)) Up.hd ⟨_, rfl, qk.put r6⟩
        exact ⟨us, q, rfl, hp, by rw [← qk.length]; exact sz1 hl, putDK acc q z, M6, F6, N.trans np, ex.trans n26.ex, hI2⟩
      | false => exact ⟨acc, M4, F4, lift n24, ex.trans n24.ex, h4.2 rfl⟩
    · have hi' : i = xs.length := by omega
      subst hi'
      exact .inl ⟨(it _ F' H' M' ex sM).2 (Nat.le_refl _), gq _ _ _ _ _ n (.raw L) (hd acc M' hI L (List.nodup_cons.mp n.st.nd).1)⟩
/-- d[y] += v, ints -/
theorem XS.daug (h : XE C td ds M fun x M1 => XE C ty ds M1 fun y M2 => ∃ p es q i, x = .raw p ∧ y = keyD q ∧ At M2 p (.dct es) ∧ valD es q = some (.int i) ∧ XE C tv ds M2 fun z M3 => ∃ j es' M4, z = .int j ∧ Up M3 p (.dct es') (.dct (putDK es' q (.int (i + j)))) M4 ∧ es'.length < 16000000 ∧ P.nx ds M4) :
    XS C (sDAug td ty tv (rI0 fun i j => .int (i + j))) ds M P := fun F H σ s e c D f =>
  h F H σ s e c _ fun x M1 v F1 H1 n1 r1 h1 => h1 F1 H1 σ n1.st (e.mono n1.ex) (c.next n1) _ fun y M2 u F2 H2 n2 r2 h2 => by
    obtain ⟨p, es, q, i, rfl, rfl, ha, hv, h3⟩ := h2
    cases r1
    have ek := r2.key
    subst ek
    obtain ⟨_, o, hp, kvs, rfl, rk⟩ := n2.st.at ha
    obtain ⟨w, hw, rw'⟩ := (rk.val (q := q)).1 _ hv
    cases rw'
    have n12 := n1.trans n2
    refine ⟨p, .int i, rfl, by rw [← hw]; exact DGet.k hp, h3 F2 H2 σ n2.st (e.mono n12.ex) (c.next n12) _ fun z M3 vz F3 H3 n3 r3 h4 => ?_⟩
    obtain ⟨j, es', M4, rfl, hu, hl, hq⟩ := h4
    cases r3
    obtain ⟨_, o, hp3, kvs3, rfl, rk3⟩ := n3.st.at hu.at
    have n4 := Nxt.put n3.st (o := .dK (putK kvs3 q (.int (i + j)))) hu ⟨_, rfl, rk3.put (.int _)⟩
    have n14 := (n12.trans n3).trans n4
    exact ⟨i, j, rfl, rfl, _, DPut.k hp3 (by rw [← rk3.length]; exact sz1 hl), f.nx _ _ _ _ _ n14 (e.mono n14.ex) hq⟩
/-! ### dicts whose keys are tuples of ints and texts -/
section
variable {X : Cx} {pins : List (Addr × Obj)} {σ : L2.St} {H : Hp} {s : Shared} {E : Value → Shared → Prop} {A : Around}
theorem dtq_of {P : Program} {w : World} {h : Heap} {a : Addr} {xs : List (List Key × Addr × Value)} (hok : HOk P w H h) (e : H a = some (DTq P w a xs)) (hk : ∀ x ∈ xs, (tupleKind (mixKind P w)).is h x.1 x.2.1) :
    xs.length ≤ sizeLine ∧ (a == sysModules) = false ∧ h.DictOfH (tupleKind (mixKind P w)) a xs := by
  obtain ⟨⟨z, lo, o, es, ep, h1, h2, h3, h4, h5⟩, _, _⟩ := hok a _ e
  exact ⟨z, lo, o, es, ep, h1, h2, h3, h4, hk, h5⟩
theorem tup_key {a : Addr} {ks : List Key} (I : L2.Inv X pins σ H s) (h : SqT X.K H a (ks.map kV)) : (tupleKind (mixKind X.prog X.w)).is s.heap ks a := by
  obtain ⟨its, rv, p, hz⟩ := I.tuple h
  obtain ⟨o, h1, h2, n, h3⟩ := p
  exact ⟨o, its.toArray, n, h1, h2, h3, by simpa using items_are rv⟩
end
abbrev QX := List (List Key × Addr × Value)
/-- {} whose keys will be tuples -/
def tDNewQ (P : Program) (w : World) : TE := fun _ H Q => ∀ p, H p = none → Q (.ref p) (upd H p (DTq P w p []))
theorem dtq_ok {P : Program} {w : World} {H : Hp} {h : Heap} {a : Addr} {xs : QX} (z : xs.length ≤ sizeLine) (lo : (a == sysModules) = false) {o : Obj} {es : Array DictEntry} {ep : Nat} (h1 : h.get? a = some o) (h2 : o.ExactDict) (h3 : o.data = .dict es ep)
    (h4 : es.toList = xs.map (entryOfKey (tupleKind (mixKind P w)))) (h5 : (xs.map (·.1)).Nodup) : ObjOk P w H h a (DTq P w a xs) :=
  ⟨⟨z, lo, o, es, ep, h1, h2, h3, h4, h5⟩, ⟨o, h1⟩, fun g1 g2 ⟨a1, a2, o', es', ep', b1, b2, b3, b4, b5⟩ k => ⟨a1, a2, o', es', ep', k _ b1, b2, b3, b4, b5⟩⟩
theorem pe_dnewQ {X : Cx} {pos : Pos} : PE X (.Dict [] [] pos) (tDNewQ X.prog X.w) := ⟨fun pins s σ H Q I h =>
  wpAny_Dict_empty ⟨.ref s.heap.objs.size, _, I.laid (a := s.heap.objs.size) (o := DTq X.prog X.w s.heap.objs.size []) (t' := s.toks) (fun _ _ q => Heap.get?_push_of_some _ q) (Nat.le_refl _)
    (dtq_ok (o := { cls := .type "dict", data := .dict #[] }) (es := #[]) (ep := 0) (Nat.zero_le _) (beq_eq_false_iff_ne.mpr (Ne.symm (Nat.ne_of_lt I.big))) (Heap.get?_push_size _ rfl) ⟨rfl, rfl, rfl⟩ rfl rfl List.nodup_nil), rfl, h _ (I.hok.fresh (Nat.le_refl _))⟩⟩
/-- d[y] = v, keys tuples that may stand anywhere -/
def sQPut (K : PySem.W.Frag) (P : Program) (w : World) (td ty tv : TE) : TS := fun D σ H => tv σ H fun v H1 => td σ H1 fun x H2 => ty σ H2 fun y H3 => ∃ (a b : Addr) (ks : List Key) (xs : QX), x = .ref a ∧ y = .ref b ∧ H3 a = some (DTq P w a xs) ∧ SqT K H3 b (ks.map kV) ∧ (∀ e ∈ xs, SqT K H3 e.2.1 (e.1.map kV)) ∧ xs.length < sizeLine ∧
  ∀ r, RelV v r → D.nx σ (upd H3 a (DTq P w a (storedH xs ks b r)))
theorem storedH_len (xs : QX) (ks : List Key) (b : Addr) (r : Value) : (storedH xs ks b r).length ≤ xs.length + 1 := by
  unfold storedH
  split
  · rw [List.length_map]; omega
  · rw [List.length_append]; exact Nat.le_refl _
theorem ps_qput {X : Cx} {o i value : Expr} {pos pos' : Pos} {td ty tv : TE} (hu : X.A.units + 1 < cLine) (ho : PE X o td) (hi : PE X i ty) (hv : PE X value tv) (hs : swapsWith value (some (.Subscript o i pos')) pos.line X.env = pure false) :
    PS X (.Assign [.Subscript o i pos'] value pos) (sQPut X.K X.prog X.w td ty tv) := by
  refine ⟨fun pins s σ H D I h => ?_⟩
  refine wpAny_Assign_Subscript (thn (hv.run pins s σ H _ I h) fun r s1 ⟨v, H1, I1, rv, q1⟩ => thn (ho.run pins s1 σ H1 _ I1 q1) fun u s2 ⟨x, H2, I2, rx, q2⟩ => thn (hi.run pins s2 σ H2 _ I2 q2) fun iv s3 ⟨y, H3, I3, ry, a, b, ks, xs, ex, ey, hd, hk, hks, hl, q3⟩ => ?_) hs
  subst ex ey
  obtain rfl : u = Value.ref a := rx
  obtain rfl : iv = Value.ref b := ry
  obtain ⟨z, lo, dd⟩ := dtq_of I3.hok hd fun e he => tup_key I3 (hks e he)
  refine wpAny_setItem_heap (hsz := z) (tupleKind_room_in1 hu) (tup_key I3 hk) dd fun h' dd' hs2 => ?_
  obtain ⟨q, es, ep, hq, h2, h3, h4, _, h5⟩ := dd'
  refine ⟨σ, _, d_write I3 (by rw [hd]; exact True.intro) hs2 ⟨q, hq⟩ (dtq_ok (by have := storedH_len xs ks b r; omega) lo hq h2 h3 h4 h5), q3 r rv⟩
def putDT (es : List (List Key × D)) (q : List Key) (d : D) : List (List Key × D) :=
  if (es.any fun kv => decide (kv.1 = q)) = true then es.map (fun kv => if kv.1 = q then (kv.1, d) else kv) else es ++ [(q, d)]
theorem qent_any {F : Hp} {q : List Key} : ∀ {es : List (List Key × D)} {xs : QX}, Paired (QEnt K F) es xs → (es.any fun kv => decide (kv.1 = q)) = (atKey xs q).isSome
  | _, _, .nil => rfl
  | e :: es, x :: xs, .cons h r => by
    rw [List.any_cons, qent_any r]
    by_cases z : e.1 = q
    · have z2 : x.1 = q := h.1.symm.trans z
      simp [atKey, List.find?_cons, z, z2]
    · have z2 : ¬ x.1 = q := fun y => z (h.1.trans y)
      simp [atKey, List.find?_cons, z, z2]
theorem qent_repl {F : Hp} {q : List Key} {d : D} {v : V} {u : Value} (r : Rep K F d v) (ru : RelV v u) {es : List (List Key × D)} {xs : QX} (h : Paired (QEnt K F) es xs) : Paired (QEnt K F) (es.map fun kv => if kv.1 = q then (kv.1, d) else kv) (xs.map (putAt q u)) := by
  induction h with
  | nil => exact .nil
  | @cons e x es xs h t ih =>
    rw [List.map_cons, List.map_cons]
    refine .cons ?_ ih
    unfold putAt
    by_cases z : e.1 = q
    · rw [if_pos z, if_pos (h.1.symm.trans z)]
      exact ⟨h.1, h.2.1, v, r, ru⟩
    · rw [if_neg z, if_neg (fun y => z (h.1.trans y))]
      exact h
theorem qent_put {F : Hp} {q : List Key} {d : D} {v : V} {u : Value} {b : Addr} (hk : SqT K F b (q.map kV)) (r : Rep K F d v) (ru : RelV v u) {es : List (List Key × D)} {xs : QX} (h : Paired (QEnt K F) es xs) : Paired (QEnt K F) (putDT es q d) (storedH xs q b u) := by
  unfold putDT storedH
  rw [qent_any h]
  split
  · exact qent_repl r ru h
  · exact Paired.snoc h ⟨rfl, hk, v, r, ru⟩
theorem reps_keyD {F : Hp} : ∀ {q : List Key} {us : List V}, Reps K F (q.map keyD) us → us = q.map kV
  | [], _, .nil => rfl
  | _ :: _, _, .cons h r => by rw [h.key, reps_keyD r]; rfl
theorem qent_keys {F : Hp} : ∀ {es : List (List Key × D)} {xs : QX}, Paired (QEnt K F) es xs → ∀ x ∈ xs, SqT K F x.2.1 (x.1.map kV)
  | _, _, .nil, x, hx => by simp at hx
  | e :: es, y :: xs, .cons h r, x, hx => by
    rcases List.mem_cons.mp hx with rfl | hx
    · exact h.2.1
    · exact qent_keys r x hx
theorem XE.dnewQ {P : Program} {w : World} (h : ∀ p, p ∉ dom M → k (.raw p) ((p, .dtq P w p []) :: M)) : XE C (tDNewQ P w) ds M k := fun F H σ s e c Q g => by
  intro p hp
  have n2 := Nxt.newM s (o := DTq P w p []) (m := .dtq P w p []) hp ⟨[], rfl, .nil⟩
  exact g _ _ _ _ _ n2 (.raw p) (h p (s.out hp))
theorem XS.qput {Pr : Program} {w : World} (h : XE C tv ds M fun z M1 => XE C td ds M1 fun x M2 => XE C ty ds M2 fun y M3 => ∃ p es q M4, x = .raw p ∧ y = .tup (q.map keyD) ∧ Up M3 p (.dtq Pr w p es) (.dtq Pr w p (putDT es q z)) M4 ∧ es.length < 16000000 ∧ P.nx ds M4) : XS C (sQPut C.K Pr w td ty tv) ds M P := fun F H σ s e c D f =>
  h F H σ s e c _ fun z M1 v F1 H1 n1 r1 h1 => h1 F1 H1 σ n1.st (e.mono n1.ex) (c.next n1) _ fun x M2 u F2 H2 n2 r2 h2 => h2 F2 H2 σ n2.st (e.mono (n1.trans n2).ex) (c.next (n1.trans n2)) _ fun y M3 wv F3 H3 n3 r3 h3 => by
    obtain ⟨p, es, q, M4, rfl, rfl, hu, hl, hq⟩ := h3
    cases r2
    obtain ⟨_, o, hp, xs, rfl, rk⟩ := n3.st.at hu.at
    cases r3 with
    | @tup b us _ ht hr =>
      have eu : us = q.map kV := reps_keyD hr
      subst eu
      have n123 := (n1.trans n2).trans n3
      refine ⟨p, b, q, xs, rfl, rfl, hp, ex_t n3.st.ex ht, fun e he => ex_t n3.st.ex (qent_keys rk e he), by rw [← rk.length]; exact sz1 hl, fun r rv => ?_⟩
      have n4 := Nxt.put n3.st (o := DTq Pr w p (storedH xs q b r)) hu ⟨_, rfl, qent_put ht (r1.mono (n2.trans n3).ex) rv rk⟩
      exact f.nx _ _ _ _ _ (n123.trans n4) (e.mono (n123.trans n4).ex) hq
/-- len(d) -/
def rLenQ (K : PySem.W.Frag) (P : Program) (w : World) : List V → Hp → VK → Prop := fun xs H Q => ∃ (a : Addr) (ys : QX), xs = [V.ref a] ∧ H a = some (DTq P w a ys) ∧ (∀ e ∈ ys, SqT K H e.2.1 (e.1.map kV)) ∧ Q (.int ys.length) H
theorem cr_lenQ {X : Cx} : CallR X (.builtin "len") (rLenQ X.K X.prog X.w) := by
  intro pins s σ H xs us Q I r h
  obtain ⟨a, ys, rfl, hd, hk, q⟩ := h
  obtain ⟨u, eu, rx⟩ := vals1 r
  subst eu
  obtain rfl : u = Value.ref a := rx
  obtain ⟨z, lo, dd⟩ := dtq_of I.hok hd fun e he => tup_key I (hk e he)
  exact call_len_dictH lo dd (by rw [sizeLine_eq] at z; omega) ⟨.int ys.length, H, I.tok _, ⟨_, rfl⟩, q⟩
theorem XC.lenQ {P : Program} {w : World} {p : Addr} {es : List (List Key × D)} (ha : At M p (.dtq P w p es)) (h : k (.int es.length) M) : XC K (rLenQ K P w) [.raw p] M k := fun F H vs s r Q g => by
  cases r with
  | cons r1 r2 =>
    cases r2
    cases r1
    obtain ⟨_, o, hp, xs, rfl, rk⟩ := s.at ha
    exact ⟨p, xs, rfl, hp, fun e he => ex_t s.ex (qent_keys rk e he), by rw [← rk.length]; exact g.now s (.int _) h⟩
theorem paired_at {α β : Type} {R : α → β → Prop} : ∀ {xs : List α} {ys : List β} {i : Nat} {y : β}, Paired R xs ys → ys[i]? = some y → ∃ x, xs[i]? = some x ∧ R x y
  | _, _, _, _, .nil, h => by simp at h
  | _, _, 0, _, .cons h _, e => by
    have e' := Option.some.inj e
    subst e'
    exact ⟨_, rfl, h⟩
  | _, _, i + 1, y, .cons _ r, e => paired_at (i := i) r e
/-! ### min of a list of fractions that are all one -/
def rMinD (K : PySem.W.Frag) : List V → Hp → VK → Prop := fun vs H Q => ∃ (a : Addr) (xs : List V) (x : PyData) (ds : List PyData), vs = [V.ref a] ∧ SqL K H a xs ∧ Dp K H (.ref a) (.list (x :: ds)) ∧ PySem.W.AlikeAll (x :: ds) ∧ PyData.depthAll (x :: ds) ≤ 60 ∧ ∀ v, v ∈ xs → Q v H
theorem cr_minD {X : Cx} (hc : X.calm = true) (hu : X.A.units + 65 < cLine) : CallR X (.builtin "min") (rMinD X.K) := by
  intro pins s σ H vs us Q I r h
  obtain ⟨a, xs, x, ds, rfl, hs, dp, al, dd, q⟩ := h
  obtain ⟨u, eu, rx⟩ := vals1 r
  subst eu
  obtain rfl : u = Value.ref a := rx
  obtain ⟨as, rd⟩ := Dp.reads I _ _ _ dp rfl
  obtain ⟨its, rv, hl, hz⟩ := I.list hs
  cases rd with
  | @list _ o vs0 n _ as h1 h2 h3 h4 =>
    have hl2 : s.heap.IsList a vs0 := ⟨o, h1, h2, n, h3⟩
    refine PySem.W.min_list_data (I.ok.hd hc) hl2 h4 al (by omega) fun i v h' tk bs hv _ hk => ?_
    have e : vs0 = its.toArray := by
      obtain ⟨o', g1, g2, n', g3⟩ := hl.isList
      rw [h1] at g1
      cases g1
      rw [h3] at g3
      cases g3
      rfl
    subst e
    have hi : its[i]? = some v := by simpa using hv
    obtain ⟨x, hx, rx⟩ : ∃ x, xs[i]? = some x ∧ RelV x v := paired_at rv hi
    exact ⟨x, H, I.kept hk, rx, q x (List.mem_of_getElem? hx)⟩
theorem alike_dQ (b : Rat) : PySem.W.AlikeAll [(dQ b).py] := ⟨fun x hx y hy => by
  rw [List.mem_singleton.mp hx, List.mem_singleton.mp hy]
  rfl, fun x hx => by rw [List.mem_singleton.mp hx]; exact fun z => nomatch z⟩
theorem XC.minQ {y : D} {b : Rat} {qs : List Rat} (hy : LsAt M y (qs.map dQ)) (hne : qs ≠ []) (hq : ∀ q ∈ qs, q = b) (h : k (dQ b) M) : XC K (rMinD K) [y] M k := fun F H vs s r Q g => by
  cases r with
  | cons r1 r2 =>
    cases r2
    obtain ⟨p, us, rfl, h1, q1⟩ := hy.get s r1
    obtain ⟨a, qs, rfl⟩ : ∃ a r, qs = a :: r := by
      cases qs with
      | nil => exact absurd rfl hne
      | cons a r => exact ⟨a, r, rfl⟩
    have hall : (( a :: qs).map dQ).all (okD 1) = true := okD_map (n := 1) dQ_ok _
    have dpa : ∀ (xs : List D) (vs : List V), xs.all (okD 1) = true → Reps K F xs vs → DpAll K H vs (pyAll xs) := by
      intro xs
      induction xs with
      | nil =>
        intro vs _ r
        cases r
        exact .nil
      | cons x xs ihx =>
        intro vs h r
        rw [List.all_cons, Bool.and_eq_true] at h
        cases r with
        | cons r1 r2 => exact .cons (okD_dp s.ex 1 _ _ h.1 r1) (ihx _ h.2 r2)
    have hmem : ∀ x ∈ pyAll ((a :: qs).map dQ), x = (dQ b).py := fun x hx => by
      rw [pyAll_map] at hx
      obtain ⟨q, hm, rfl⟩ := List.mem_map.mp hx
      rw [hq q hm]
    have hdep : ∀ xs : List PyData, (∀ x ∈ xs, x = (dQ b).py) → PyData.depthAll xs ≤ 2 := fun xs => by
      induction xs with
      | nil => intro _; simp [PyData.depthAll]
      | cons x xs ih =>
        intro hx
        have e1 := hx x List.mem_cons_self
        have e2 := ih fun y hy => hx y (List.mem_cons_of_mem _ hy)
        subst e1
        simp only [PyData.depthAll]
        have e3 : (dQ b).py.depth ≤ 2 := by rw [dQ_py]; simp [PyData.depth, PyData.depthAll]
        omega
    refine ⟨p, us, (dQ a).py, pyAll (qs.map dQ), rfl, SqL.of h1, .lst (SqL.of h1) (dpa _ _ hall q1), ⟨fun x hx y hy => ?_, fun x hx => ?_⟩, Nat.le_trans (hdep _ hmem) (by decide), fun v hv => ?_⟩
    · rw [hmem x hx, hmem y hy]
      rfl
    · rw [hmem x hx]
      exact fun z => nomatch z
    · obtain ⟨i, hi⟩ := List.getElem?_of_mem hv
      obtain ⟨d, hd, rd⟩ := q1.getV hi
      obtain ⟨q, hqm, rfl⟩ := map_get hd
      rw [hq q (List.mem_of_getElem? hqm)] at rd
      exact g.now s rd h
end
end DL

namespace DL
open PySem PySem.Spec PyProof.Rows L2 SX
/-! ### sorted(d, key=lambda x: r[x]): d and r dicts whose keys are texts -/
abbrev lamB (rn xn : Str) (p1 p2 p3 : Pos) : Expr := .Subscript (.Name rn p1) (.Name xn p2) p3
/-- the lambda, called with a text -/
theorem rank_turn {prog : Program} {w : World} {A : Around} {E : Value → Shared → Prop} {s : Shared} {f c' cr r : Addr} {q : Str} {params : Arguments} {scope : Scope} {cl : List (Str × Addr)} {pm ctv : Value} {rn xn : Str} {p1 p2 p3 : Pos} {vs : List (Key × Value)} {k : Str} {t : Tok} {u : Value} {Q : Value → Shared → Prop}
    (of1 : s.heap.get? f = some (PySem.W.kla_obj "<lambda>" q params (lamB rn xn p1 p2 p3) scope cl pm c' ctv)) (rec : s.heap.CodeRec (.ref c') q) (nl : s.heap.NoLimit) (hk : scope.kind = .function) (co : scope.isCoroutine = false) (gen : scope.isGenerator = false)
    (hrn : scope.names.lookup rn = some .free) (hxn : scope.names.lookup xn = some .local) (nocell : ∀ y ∈ scope.names, y.2 ≠ .cell)
    (hcl : cl.lookup rn = some cr) (hcell : s.heap.IsCell cr (some (.ref r))) (dd : s.heap.DictOf (mixKind prog w) r vs) (hv : valueAt vs (.inr k) = some u)
    (hbind : ∀ v, bindArgs (PySem.W.kla_fn "<lambda>" q params (lamB rn xn p1 p2 p3) scope cl pm (.ref c') ctv) ⟨[v], []⟩ = pure [(xn, v)]) (hd : A.depth < recursionLimit)
    (d1 : (rn == ("__debug__" : Str)) = false) (d2 : (rn == ("__classdict__" : Str)) = false) (d3 : (xn == ("__debug__" : Str)) = false)
    (hQ : ∀ h' tk, (∀ b o, s.heap.get? b = some o → h'.get? b = some o) → Q u { s with heap := h', toks := tk }) :
    wpAny (model prog w) A (call (.ref f) [.str k t]) Q E s := by
  refine wpAny_call (PySem.W.kla_callFunE hd of1 rfl co gen rfl rec ?_)
  rw [hbind]
  refine wpAny_pure (wpAny_newFunctionEnv nocell (fun y hy => by rw [List.mem_singleton.mp hy]; exact hxn) (fun h₁ hns hsb => ⟨nl.fresh _ hsb, ?_⟩) hk)
  show codeAny _ _ (.expr (lamB rn xn p1 p2 p3) (PySem.W.envX q scope s.heap.objs.size f (.ref c') cl)) _ _
  have kp : ∀ b o, s.heap.get? b = some o → h₁.get? b = some o := fun b o e => hsb.extBut b o (Nat.ne_of_lt (Heap.lt_size e)) (Heap.get?_push_of_some _ e)
  have cell1 : h₁.IsCell cr (some (.ref r)) := by
    obtain ⟨o, h1, h2⟩ := hcell
    exact ⟨o, kp _ _ h1, h2⟩
  have dd1 : h₁.DictOf (mixKind prog w) r vs := by
    obtain ⟨o, es, ep, h1, h2⟩ := dd
    exact ⟨o, es, ep, kp _ _ h1, h2⟩
  refine PySem.W.kla_codeExpr (subD_of PySem.F.slot_dict_getitem.lookup (fun _ _ => rfl) (wpAny_Name (wpAny_loadName_free hk hrn hcl cell1 (wpAny_Name (wpAny_loadName_local hk hxn hns (v := .str k t) ?_ ⟨?_, ?_⟩) d3) d2) d1))
  · show List.lookup xn [(xn, Value.str k t)] = _
    simp [List.lookup]
  · exact dd1.typeIs
  · exact wpAny_getItem_of (kV_is (k := .inr k) ⟨t, rfl⟩) dd1.mapOf hv (hQ _ _ kp)
/-! ### the table of code objects grows -/
inductive TabStep (H : Hp) (P : Addr) (q : Str) : Hp → Prop
  | hit : TabStep H P q H
  | new {ps more : Array Value} {c' : Addr} : H P = some (.tbl ps) → H c' = none → TriplesOk (ps ++ more).toList → (∀ pos cv, codeAmong pos (ps ++ more).toList = some cv → codeAmong pos ps.toList = some cv ∨ cv = .ref c') →
      TabStep H P q (upd (upd H P (.tbl (ps ++ more))) c' (LamX.CodeO c' q))
section
variable {X : Cx} {pins : List (Addr × Obj)} {σ : L2.St} {H : Hp} {s : Shared}
theorem lam_make3 {c P : Addr} {params : Arguments} {body : Expr} {scope : Scope} {pos : Pos} {E : Value → Shared → Prop} {Q : Value → Shared → Prop} (I : L2.Inv X pins σ H s) (TB : LamX.TabB X.base X.mg c P) (hcode : X.env.code = .ref c)
    (hT : LamX.TabS H P (X.env.qual ++ "<lambda>")) (hdef : defaultsOf params X.env = ([], [])) (hfree : ∀ y ∈ scope.names, y.2 = .free → ∃ c, X.env.cells.lookup y.1 = some c)
    (h : ∀ (f c' : Addr) (pm ctv : Value) (H1 : Hp) (s' : Shared), L2.Inv X pins σ H1 s' → TabStep H P (X.env.qual ++ "<lambda>") H1 → (∀ b o, s.heap.get? b = some o → b ≠ P → s'.heap.get? b = some o) →
      s'.heap.get? f = some (PySem.W.kla_obj "<lambda>" (X.env.qual ++ "<lambda>") params body scope (cloFrom X.env.cells scope.names []) pm c' ctv) → H1 c' = some (LamX.CodeO c' (X.env.qual ++ "<lambda>")) → Q (.ref f) s') :
    wpAny (model X.prog X.w) X.A (eval (.Lambda params body scope pos) X.env) Q E s := by
  obtain ⟨ps, hP, ht, ha⟩ := hT
  refine PySem.W.kla_eval hdef ?_
  have bP : s.heap.BuiltinsAt X.mg P := TB.bm.keeps I.bk
  have hP' : s.heap.get? P = some { cls := .none, data := .fields ps } := I.hok P _ hP
  cases hc : codeAmong pos ps.toList with
  | none =>
    refine PySem.W.kla_makeFunction (mg := X.mg) (c := c) (P := P) (ps := ps) (closure_ok hfree) I.ok.glob (I.mod.glob.keeps I.bk) hcode (TB.code.keeps I.bk) hP' ht hc TB.gP bP fun c' ctv h' tk hx hge hlt hrec htb => ?_
    obtain ⟨c2, oc, vs, t, e2, hoc, hd, hv⟩ := hrec
    cases e2
    have nC : H c' = none := I.hok.fresh hge
    have I1 := LamX.inv_table (t' := tk) (more := #[rawInt pos.line, rawInt pos.col, .ref c']) (h' := h'.push (PySem.W.kla_obj "<lambda>" (X.env.qual ++ "<lambda>") params body scope (cloFrom X.env.cells scope.names []) ((X.mg "__name__").getD .none) c' ctv)) I hP
      (fun b o hb e => Heap.get?_push_of_some _ (hx b o hb e)) (Heap.get?_push_of_some _ htb) hge ⟨oc, vs, t, Heap.get?_push_of_some _ hoc, hd, hv⟩
    have eL : (ps ++ #[rawInt pos.line, rawInt pos.col, .ref c']).toList = ps.toList ++ [rawInt pos.line, rawInt pos.col, .ref c'] := by simp
    exact h h'.objs.size c' ((X.mg "__name__").getD .none) ctv _ _ I1 (.new hP nC (by rw [eL]; exact PySem.TriplesOk_snoc _ _ _ _ ht) fun p' cv hcv => by rw [eL] at hcv; exact LamX.among_app _ ht hcv)
      (fun b o e hb => Heap.get?_push_of_some _ (hx b o hb e)) (Heap.get?_push_size _ rfl) upd_same
  | some cv =>
    obtain ⟨c', e, hco⟩ := ha pos cv hc
    subst e
    refine PySem.W.kla_makeFunctionHit (mg := X.mg) (c := c) (P := P) (ps := ps) (closure_ok hfree) I.ok.glob (I.mod.glob.keeps I.bk) hcode (TB.code.keeps I.bk) hP' ht hc bP fun ctv h' tk hx hsz => ?_
    exact h h'.objs.size c' ((X.mg "__name__").getD .none) ctv H _ (I.kept fun b o e => Heap.get?_push_of_some _ (hx b o e)) .hit (fun b o e _ => Heap.get?_push_of_some _ (hx b o e)) (Heap.get?_push_size _ rfl) hco
end
end DL
namespace DL
open PySem PySem.Spec PyProof.Rows L2 SX
theorem eachIs_of {α β : Type} {R : α → β → Prop} : ∀ {xs : List α} {ys : List β}, xs.length = ys.length → (∀ (j : Nat) x y, xs[j]? = some x → ys[j]? = some y → R x y) → PySem.W.EachIs R xs ys
  | [], [], _, _ => .nil
  | [], _ :: _, h, _ => by simp at h
  | _ :: _, [], h, _ => by simp at h
  | x :: xs, y :: ys, h, f => .cons (f 0 x y rfl rfl) (eachIs_of (by simpa using h) fun j a b h1 h2 => f (j + 1) a b (by simpa using h1) (by simpa using h2))
theorem eachIs_vals : ∀ {out : List Value} {ks : List Str}, PySem.W.EachIs (fun (v : Value) (x : Str) => ∃ t, v = .str x t) out ks → Vals (ks.map V.str) out
  | _, _, .nil => .nil
  | _, _, .cons h r => .cons h (eachIs_vals r)
/-- the order by ranks -/
def byRank (rk : Str → Int) (ks : List Str) : List Str := ks.mergeSort fun a b => decide (rk a ≤ rk b)
/-- sorted(d, key=lambda x: r[x]), the reading: j the slot of r -/
def tSortK (P : Addr) (q : Str) (j : Nat) (te : TE) : TE := fun σ H Q => te σ H fun x H1 => ∃ (d r : Addr) (kvs rkv : List (Key × V)) (ks : List Str) (rk : Str → Int), x = .ref d ∧ Rd H1 d (.dK kvs) ∧ kvs.map (·.1) = ks.map Sum.inr ∧ ks.length ≤ 1000 ∧
  σ[j]? = some (some (.ref r)) ∧ Rd H1 r (.dK rkv) ∧ (∀ k ∈ ks, valV rkv (.inr k) = some (.int (rk k))) ∧ d ≠ P ∧ r ≠ P ∧ LamX.TabS H1 P q ∧
  ∀ H2, TabStep H1 P q H2 → ∀ p, H2 p = none → Q (.ref p) (upd H2 p (.lst ((byRank rk ks).map V.str)))
theorem TabStep.rd {H H2 : Hp} {P : Addr} {q : Str} (t : TabStep H P q H2) {a : Addr} {u : HO} (ne : a ≠ P) (h : Rd H a u) : Rd H2 a u := by
  cases t with
  | hit => exact h
  | @new ps more c' h1 h2 _ _ =>
    have at_ : ∀ o : HO, H a = some o → upd (upd H P (.tbl (ps ++ more))) c' (LamX.CodeO c' q) a = some o := fun o e => by
      rw [upd_ne (ne_of_none e h2), upd_ne ne]
      exact e
    rcases h with h | ⟨o, h⟩
    · exact .inl (at_ _ h)
    · exact .inr ⟨o, at_ _ h⟩
theorem pe_sortK {X : Cx} {e : Expr} {te : TE} {c P : Addr} {params : Arguments} {scope : Scope} {rn xn : Str} {p1 p2 p3 p lpos kpos pos : Pos} {j k : Nat} (he : PE X e te) (hr : Room k X.A) (hc : X.calm = true) (hg : Gl X "sorted") (hm : X.mg "sorted" = none)
    (TB : LamX.TabB X.base X.mg c P) (hcode : X.env.code = .ref c) (hdef : defaultsOf params X.env = ([], [])) (hN : X.N[j]? = some rn) (hsc : X.env.scope.names.lookup rn = some .cell)
    (hk : scope.kind = .function) (co : scope.isCoroutine = false) (gen : scope.isGenerator = false) (hnm : scope.names = [(xn, .local), (rn, .free)]) (hne : (xn == rn) = false) (hne2 : (rn == xn) = false)
    (hbind : ∀ (q : Str) (cl : List (Str × Addr)) (pm cv ctv v : Value), bindArgs (PySem.W.kla_fn "<lambda>" q params (lamB rn xn p1 p2 p3) scope cl pm cv ctv) ⟨[v], []⟩ = pure [(xn, v)])
    (d1 : (rn == ("__debug__" : Str)) = false := by decide) (d2 : (rn == ("__classdict__" : Str)) = false := by decide) (d3 : (xn == ("__debug__" : Str)) = false := by decide)
    (hs : backTo pos (starEach [e] X.env) = (false, eval e X.env) :: backTo pos (starEach [] X.env) := by rfl) (hpl : (backTo pos (starEach [e] X.env)).any (·.1) = false := by rfl)
    (hall : (backToKw pos (keywordEach [⟨some "key", .Lambda params (lamB rn xn p1 p2 p3) scope lpos, kpos⟩] X.env)).all (·.1.isSome) = true := by rfl) (hnone : (backToKw pos (keywordEach [⟨some "key", .Lambda params (lamB rn xn p1 p2 p3) scope lpos, kpos⟩] X.env)).any (·.1.isNone) = false := by rfl)
    (hks : (backToKw pos (keywordEach [⟨some "key", .Lambda params (lamB rn xn p1 p2 p3) scope lpos, kpos⟩] X.env)).filterMap (·.1) = [Str.ofString "key"] := by rfl) (hs0 : starEach [e] X.env = (false, eval e X.env) :: starEach [] X.env := by rfl) :
    PE X (.Call (.Name "sorted" p) [e] [⟨some "key", .Lambda params (lamB rn xn p1 p2 p3) scope lpos, kpos⟩] pos) (tSortK P (X.env.qual ++ "<lambda>") j te) := by
  refine ⟨fun pins s σ H Q I h => ?_⟩
  refine wpAny_Call_Name_kw (ld_blt I hg hm (by first | rfl | decide +kernel) ?_ (by decide) (by decide))
  have h' : tCons te tNil σ H (fun vs H1 => match vs with
    | [x] => ∃ (d r : Addr) (kvs rkv : List (Key × V)) (ks : List Str) (rk : Str → Int), x = .ref d ∧ Rd H1 d (.dK kvs) ∧ kvs.map (·.1) = ks.map Sum.inr ∧ ks.length ≤ 1000 ∧
      σ[j]? = some (some (.ref r)) ∧ Rd H1 r (.dK rkv) ∧ (∀ k ∈ ks, valV rkv (.inr k) = some (.int (rk k))) ∧ d ≠ P ∧ r ≠ P ∧ LamX.TabS H1 P (X.env.qual ++ "<lambda>") ∧
      ∀ H2, TabStep H1 P (X.env.qual ++ "<lambda>") H2 → ∀ p, H2 p = none → Q (.ref p) (upd H2 p (.lst ((byRank rk ks).map V.str)))
    | _ => False) := h
  refine PyProof.Rows.callWith_kw (thn ((pa_cons he pa_nil hs0).run pos pins s σ H _ I h') fun us s1 hq => ?_) hs hpl hall hnone
  obtain ⟨vs, H1, I1, r1, q1⟩ := hq
  match vs, q1 with
  | [x], q1 =>
  obtain ⟨d, r, kvs, rkv, ks, rk, rfl, hd, hkeys, hlen, hj, hrd, hrk, ndP, nrP, hT, q⟩ := q1
  obtain ⟨u, rfl, rx⟩ := vals1 r1
  obtain rfl : u = Value.ref d := rx
  have hfree : ∀ y ∈ scope.names, y.2 = .free → ∃ c, X.env.cells.lookup y.1 = some c := fun y hy e => by
    rw [hnm] at hy
    simp only [List.mem_cons, List.not_mem_nil, or_false] at hy
    rcases hy with rfl | rfl
    · cases e
    · exact I1.ok.has _ (.inl hsc)
  rw [hks]
  show wpAny _ _ (evalAll [do let v ← eval (.Lambda params (lamB rn xn p1 p2 p3) scope lpos) X.env; standAt pos; pure v]) _ _ s1
  refine wpAny_evalAll_cons (wpAny_bind (lam_make3 I1 TB hcode hT hdef hfree fun f c' pm ctv H2 s2 I2 st kp of1 hco => wpAny_bind (wpAny_standAt (wpAny_pure (wpAny_evalAll_nil ?_)))))
  -- the dicts, the cell
  have hd2 := st.rd ndP hd
  have hr2 := st.rd nrP hrd
  obtain ⟨m, hn2, hl2⟩ := I2.loc
  obtain ⟨ur, rr, lr⟩ := hl2 j rn (.ref r) hN hj (.inr (.inl hsc))
  obtain rfl : ur = Value.ref r := rr
  have hcellE : ∃ cr, X.env.cells.lookup rn = some cr ∧ s2.heap.IsCell cr (some (.ref r)) := by
    rcases lr with ⟨hk2, _⟩ | ⟨_, cr, hc1, hc2⟩
    · have z : X.env.scope.names.lookup rn = some .local := hk2
      rw [hsc] at z
      cases z
    · exact ⟨cr, hc1, hc2⟩
  obtain ⟨cr, hcr, hcell⟩ := hcellE
  obtain ⟨z, lo, vd, rkd, dd⟩ := dk_rd I2.hok hd2
  obtain ⟨ep, hat⟩ := dd.dictAt
  obtain ⟨zr, lor, vr, rkr, ddr⟩ := dk_rd I2.hok hr2
  have hl : vd.length = ks.length := by
    have e1 : kvs.length = vd.length := Paired.length rkd
    have e2 := congrArg List.length hkeys
    rw [List.length_map, List.length_map] at e2
    omega
  have h16 : vd.length ≤ sizeLine := by rw [hl, sizeLine_eq]; omega
  have hkv : vd.map (·.1) = ks.map Sum.inr := (KV.keys rkd).symm.trans hkeys
  have hcl : (cloFrom X.env.cells scope.names []).lookup rn = some cr := NdefX.clo_has hfree (by rw [hnm]; simp) hcr
  refine call_function_entry_kw kind_sorted plain_sorted entry_sorted (PyProof.Rows.ksk_s1 _ _) ?_
  unfold Builtin.«sorted»
  refine wpAny_bind (m := checkCount "sorted" 1 1 _) (wpAny_pure ?_)
  refine wpAny_bind (PySem.W.kdu_collect (A := X.A.in1) (PySem.W.kdl_dict (knd := mixKind X.prog X.w) (kvs := vd) (ep := ep) lo) (I2.ok.hd hc) hat h16 fun h' tk acc hk' hacc => ?_)
  have hal : acc.toList.length = ks.length := by rw [Array.length_toList, hacc.1, hl]
  have hE : PySem.W.EachIs (fun (v : Value) (x : Str) => ∃ t, v = .str x t) acc.toList ks := eachIs_of hal fun i v y e1 e2 => by
    obtain ⟨k, x, e3, e4⟩ := hacc.2 i v (by rw [← Array.getElem?_toList]; exact e1)
    have e5 : (vd.map (·.1))[i]? = some k := by rw [List.getElem?_map, e3]; rfl
    rw [hkv, List.getElem?_map, e2] at e5
    have e6 : Sum.inr y = k := Option.some.inj e5
    subst e6
    obtain ⟨t, ev⟩ := Value.isStrOf_shape (x := y) (v := v) e4
    exact ⟨t, ev⟩
  refine wpAny_bind (wpAny_newList ?_ (by rw [hal, sizeLine_eq]; omega))
  have hoL : (h'.push (seqObj "list" acc.toList.toArray 0)).get? h'.objs.size = some (seqObj "list" acc.toList.toArray 0) := Heap.get?_push_size _ rfl
  show wpAny _ _ _ _ _ { s2 with heap := h'.push (seqObj "list" acc.toList.toArray 0), toks := tk }
  have fresh : s2.heap.get? h'.objs.size = none := by
    cases e : s2.heap.get? h'.objs.size with
    | none => rfl
    | some o => exact absurd (Heap.lt_size (hk' _ _ e)) (Nat.lt_irrefl _)
  have kL : ∀ {g : Heap}, PySem.W.KeepsBut h'.objs.size (h'.push (seqObj "list" acc.toList.toArray 0)) g → ∀ b o, s2.heap.get? b = some o → g.get? b = some o := fun {g} kb b o e =>
    kb b o (fun z => by rw [z, fresh] at e; cases e) (Heap.get?_push_of_some _ (hk' _ _ e))
  obtain ⟨⟨oc, vsc, tc, hoc, hdc, hvc⟩, _, _⟩ := I2.hok c' _ hco
  refine wpAny_bind (wpAny_holding (PySem.W.list_sort_key_data (s := { s2 with heap := h'.push (seqObj "list" acc.toList.toArray 0), toks := tk }) (b := false) (fun x => PyData.int (rk x)) hoL hE ?al ?so ?le ?un (PyProof.Rows.ksk_l1 _ _) (PyProof.Rows.ksk_t1 _ _) (fun v x hR hx h tk' kb => ?turn) fun out c2 h'' tk'' kb hD hlen2 hO => ?fin))
  case al =>
    intro a ha b hb
    obtain ⟨x, _, rfl⟩ := List.mem_map.mp ha
    obtain ⟨y, _, rfl⟩ := List.mem_map.mp hb
    rfl
  case so =>
    refine .inr fun a ha => ?_
    obtain ⟨x, _, rfl⟩ := List.mem_map.mp ha
    exact ⟨fun z => (nomatch z), fun xs z => (nomatch z)⟩
  case le => rw [sizeLine_eq]; omega
  case un =>
    intro x _
    have := hr.un
    show X.A.in1.units + 1 + 0 < cLine
    have e : X.A.in1.units = X.A.units + 1 := rfl
    omega
  case turn =>
    obtain ⟨t, rfl⟩ := hR
    obtain ⟨u, hu, ru⟩ := RelO.some_of (v := V.int (rk x)) (o := valueAt vr (.inr x)) (by rw [← hrk x hx]; exact rkr.val (.inr x))
    obtain ⟨tu, rfl⟩ := (show ∃ tu, u = Value.int (rk x) tu from ru)
    have dd2 : h.DictOf (mixKind X.prog X.w) r vr := by
      obtain ⟨o, es, ep, h1, h2⟩ := ddr
      exact ⟨o, es, ep, kL kb _ _ h1, h2⟩
    have cell2 : h.IsCell cr (some (.ref r)) := by
      obtain ⟨o, h1, h2⟩ := hcell
      exact ⟨o, kL kb _ _ h1, h2⟩
    refine rank_turn (s := { s2 with heap := h, toks := tk' }) (kL kb _ _ of1) ⟨c', oc, vsc, tc, rfl, kL kb _ _ hoc, hdc, hvc⟩ (I2.nolimit.keeps fun b o e => kL kb b o e) hk co gen (by rw [hnm, List.lookup_cons, hne2, List.lookup_cons, beq_self_eq_true]) (by rw [hnm, List.lookup_cons, beq_self_eq_true])
      (fun y hy => by rw [hnm] at hy; simp only [List.mem_cons, List.not_mem_nil, or_false] at hy; rcases hy with rfl | rfl <;> exact fun z => nomatch z) hcl cell2 dd2 hu (fun v => hbind _ _ _ _ _ v) (by have := hr.dp; show X.A.depth < _; omega) d1 d2 d3 fun h3 tk3 k3 => ⟨h3, tk3, rfl, k3, .int _ _⟩
  case fin =>
    have hOk : out.length ≤ sizeLine := by rw [hlen2, sizeLine_eq]; omega
    have hO2 : PySem.W.EachIs (fun (v : Value) (x : Str) => ∃ t, v = .str x t) out (byRank rk ks) := by
      rw [PySem.W.dataLe_int] at hO
      exact hO
    have I3 : L2.Inv X pins σ H2 { s2 with heap := h', toks := tk } := I2.kept hk'
    have hV := eachIs_vals hO2
    refine wpAny_pure ⟨_, rfl, .ref h'.objs.size, upd H2 h'.objs.size (.lst ((byRank rk ks).map V.str)), I3.laid (t' := tk'') (fun b o e => kb b o (Nat.ne_of_lt (Heap.lt_size e)) (Heap.get?_push_of_some _ e)) (Nat.le_refl _) ⟨?_, out, c2, hV, hD⟩, rfl, q H2 st _ (I3.hok.fresh (Nat.le_refl _))⟩
    have e1 := Paired.length hV
    rw [e1]
    exact hOk
end DL
namespace DL
open PySem PySem.Spec PyProof.Rows L2 SX
theorem Nxt.tab {K : PySem.W.Frag} {F H H2 : Hp} {M : Mem} {P : Addr} {q : Str} (s : Stt K F H M) (ha : At M P (.tab fun _ _ => q)) (t : TabStep H P q H2) : ∃ F', Nxt K F H M F' H2 M := by
  cases t with
  | hit => exact ⟨F, Nxt.refl s⟩
  | @new ps more c' h1 h2 h3 h4 =>
    obtain ⟨fP, o, hP, ps', rfl, ht, hc⟩ := s.at ha
    rw [h1] at hP
    cases hP
    have fc : F c' = none := s.free h2
    have neP : ∀ a o, F a = some o → a ≠ P := fun a o e z => by rw [z, fP] at e; cases e
    have nec : ∀ a o, H a = some o → a ≠ c' := fun a o e z => by rw [z, h2] at e; cases e
    have ncP : P ≠ c' := nec _ _ h1
    refine ⟨upd F c' (LamX.CodeO c' q), ⟨fun a u e => ?_, fun p hp => ?_, s.nd⟩, Ex.new fc, fun a u e n => ?_, fun a e1 e2 _ _ => ?_, fun a m => .inl m, fun a e => ?_⟩
    · by_cases z : a = c'
      · subst z
        rw [upd_same] at e ⊢
        exact e
      · rw [upd_ne z] at e ⊢
        rw [upd_ne (neP a u e)]
        exact s.ex a u e
    · obtain ⟨g1, u, g2, g3⟩ := s.mem p hp
      have n1 := nec _ _ g2
      by_cases z : p.1 = P
      · have e2 : p.2 = .tab fun _ _ => q := by
          have hm := ha.mem
          have nd := s.nd
          have key : ∀ (M : Mem), (dom M).Nodup → ∀ p ∈ M, ∀ r ∈ M, p.1 = r.1 → p = r := by
            intro M
            induction M with
            | nil => intro _ p hp; cases hp
            | cons x M ih =>
              intro nd p hp r hr e
              obtain ⟨n1, n2⟩ := List.nodup_cons.mp nd
              rcases List.mem_cons.mp hp with e1 | hp1
              · rcases List.mem_cons.mp hr with e2 | hr1
                · rw [e1, e2]
                · exact absurd (List.mem_map.mpr ⟨r, hr1, by rw [← e, e1]⟩) n1
              · rcases List.mem_cons.mp hr with e2 | hr1
                · exact absurd (List.mem_map.mpr ⟨p, hp1, by rw [e, e2]⟩) n1
                · exact ih n2 p hp1 r hr1 e
          have := key M nd p hp _ hm z
          rw [this]
        refine ⟨by rw [upd_ne n1]; exact g1, .tbl (ps ++ more), by rw [upd_ne n1, z, upd_same], ?_⟩
        rw [e2]
        refine ⟨ps ++ more, rfl, h3, fun pos cv hcv => ?_⟩
        rcases h4 pos cv hcv with e | rfl
        · obtain ⟨c, e1, e3⟩ := hc pos cv e
          exact ⟨c, e1, by rw [upd_ne (fun w => by rw [w, fc] at e3; cases e3)]; exact e3⟩
        · exact ⟨c', rfl, upd_same⟩
      · exact ⟨by rw [upd_ne n1]; exact g1, u, by rw [upd_ne n1, upd_ne z]; exact g2, g3.mono (Ex.new fc)⟩
    · have z : a ≠ P := fun z => n (by rw [z]; exact List.mem_map.mpr ⟨_, ha.mem, rfl⟩)
      rw [upd_ne (nec a u e), upd_ne z]
      exact e
    · have z : a ≠ c' := fun z => e2 (by rw [z]; exact h2)
      rw [upd_ne z]
      exact e1
    · exact upd_some (upd_some e)
theorem Rd.some {H : Hp} {a : Addr} {u : HO} (h : Rd H a u) : ∃ o, H a = some o ∧ (o = u ∨ ∃ ob, o = .frz ob u) := by
  rcases h with h | ⟨ob, h⟩
  · exact ⟨u, h, .inl rfl⟩
  · exact ⟨_, h, .inr ⟨ob, rfl⟩⟩
theorem rd_ne_tbl {H : Hp} {a P : Addr} {kvs : List (Key × V)} {ps : Array Value} (h : Rd H a (.dK kvs)) (hP : H P = some (.tbl ps)) : a ≠ P := fun z => by
  obtain ⟨o, e, ho⟩ := Rd.some h
  rw [z, hP] at e
  cases e
  rcases ho with ho | ⟨ob, ho⟩ <;> cases ho
theorem XE.sortK {C : Cfg} {ds : DS} {M : Mem} {k : D → Mem → Prop} {te : TE} {P : Addr} {q : Str} {j : Nat} (h : XE C te ds M fun x M1 => ∃ (es : List (Key × D)) (ks : List Str) (y : D) (res : List (Key × D)) (rk : Str → Int), DgAt M1 x es ∧ es.map (·.1) = ks.map Sum.inr ∧ ks.length ≤ 1000 ∧
      ds[j]? = some (some y) ∧ DgAt M1 y res ∧ (∀ k ∈ ks, valD res (.inr k) = some (.int (rk k))) ∧ At M1 P (.tab fun _ _ => q) ∧ k (.lst ((byRank rk ks).map D.str)) M1) : XE C (tSortK P q j te) ds M k := fun F H σ s e c Q g =>
  h F H σ s e c _ fun x M1 v F1 H1 n1 r1 h1 => by
    obtain ⟨es, ks, y, res, rk, hx, hk, hl, hj, hy, hrk, ha, q9⟩ := h1
    obtain ⟨d, kvs, rfl, hd, rd⟩ := hx.get n1.st r1
    obtain ⟨vy, hvy, ry⟩ := (e.mono n1.ex).2 j y hj
    obtain ⟨r, rkv, rfl, hr, rr⟩ := hy.get n1.st ry
    obtain ⟨fP, o, hP, ps, rfl, ht, hc⟩ := n1.st.at ha
    have keys : ∀ {es : List (Key × D)} {kvs : List (Key × V)}, RepK C.K F1 es kvs → kvs.map (·.1) = es.map (·.1) := by
      intro es kvs z
      induction es generalizing kvs with
      | nil => cases z; rfl
      | cons e es ih =>
        cases z with
        | cons z1 z2 => rw [List.map_cons, List.map_cons, ih z2]
    refine ⟨d, r, kvs, rkv, ks, rk, rfl, hd, (keys rd).trans hk, hl, hvy, hr, fun k hk2 => ?_, rd_ne_tbl hd hP, rd_ne_tbl hr hP, ⟨ps, hP, ht, fun pos cv hcv => ?_⟩, fun H2 ts p hp => ?_⟩
    · obtain ⟨w, hw, rw'⟩ := (rr.val (q := .inr k)).1 _ (hrk k hk2)
      cases rw'
      exact hw
    · obtain ⟨c, e1, e2⟩ := hc pos cv hcv
      exact ⟨c, e1, n1.st.ex _ _ e2⟩
    · obtain ⟨F2, n2⟩ := Nxt.tab n1.st ha ts
      have n3 := Nxt.newF n2.st (o := .lst ((byRank rk ks).map V.str)) hp
      exact g _ _ _ _ _ ((n1.trans n2).trans n3) (.lst upd_same (Reps.ofStrs _)) q9
end DL

namespace DL
open PySem PySem.Spec PyProof.Rows L2 SX
/-! ### defs whose code object is known; promises over a table -/
theorem fnOk_code {CX : CXT} {P : Program} {w : World} {K : PySem.W.Frag} {mg : Str → Option Value} {base : Heap} {k : Nat} {f : Addr} {x qual : Str} {params : Arguments} {body : List Stmt} {scope : Scope} {dvs : List V} {kws : List (Str × V)} {fd : FuncData}
    {N ps : List Str} {sp : Sp} {cd : Value} (F : FunD K x qual params body scope dvs kws f fd) (hcd : fd.code = cd) (S : FnScope N ps scope) (len : ∀ vs H Q E, sp vs H Q E → vs.length = ps.length)
    (hbody : ∀ (A : Around) (outer : List Env) (s : Shared) (H : Hp) (vs : List V) (Q : VK) (E : XK), Room k (A.deeper (envOfC qual scope s.heap.objs.size f cd)) → sp vs H Q E →
      ∃ t, PSs (cxOf CX P w K mg base N qual scope f cd A outer s H E) body t ∧ t { nx := fun _ H' => Q .non H', rt := Q } (L2.start N vs) H) :
    FnOk P w K mg base CX (k + 1) f fd ps sp := by
  obtain ⟨oc, od, dV, kV, doc, pm, an, cdv, ct, osl, rfl, at_, code, _, _⟩ := F.ex
  have e : cdv = cd := hcd
  subst e
  refine ⟨len, fun A outer s H args us vs Q E room env0 binds rel prom => ?_⟩
  have hlen := len _ _ _ _ prom
  have inH : K.In s.heap := env0.mod.kin.keeps fun b o e => (env0.bs b o e).1
  have noLim : s.heap.NoLimit := env0.mod.nolimit.keeps fun b o e => (env0.bs b o e).1
  have kinds : ∀ y ∈ ps.zip us, scope.names.lookup y.1 = some .local ∨ (scope.names.lookup y.1 = some .cell ∧ ((cellsFrom (s.heap.objs.size + 1) scope.names []).lookup y.1).isSome = true) := by
    rintro ⟨n, v⟩ hy
    refine (S.par n (List.of_mem_zip hy).1).imp id fun q => ⟨q, ?_⟩
    exact PySem.W.cellsFrom_some _ _ _ (.inl q)
  refine codeAny_call_function room.depth (inH _ _ at_) rfl S.co S.gen rfl (PySem.W.codeRec_of inH code) (binds _ _ _ _ ?_)
  refine wpAny_newFunctionEnv_cells S.kind kinds fun env hEnv s1 inC => ?_
  subst hEnv
  refine ⟨noLim.keeps inC.toInCall.keep, codeAny_func ?_⟩
  obtain ⟨t, ht, hq⟩ := hbody A outer s H vs Q E (room.deeper _) prom
  refine wpAny_mono (ht.run [] s1 (L2.start N vs) H _ (inv_start S room.hd env0 hlen rel inC) hq) (fun fl s' hs => ?_) fun e s' hs => hs
  cases fl with
  | ret u => exact let ⟨v, σ', H', J, rv, q⟩ := hs; ⟨v, H', J.os, J.bare, J.base, J.hok, rv, q⟩
  | next => exact let ⟨σ', H', J, q⟩ := hs; ⟨V.non, H', J.os, J.bare, J.base, J.hok, rfl, q⟩
  | brk => exact let ⟨_, _, _, q⟩ := hs; q.elim
  | cont => exact let ⟨_, _, _, q⟩ := hs; q.elim
/-- what the table at P is -/
abbrev tabM (P : Addr) (q : Str) : Mem := [(P, .tab fun _ _ => q)]
/-- a promise that leaves all as it is, of a def that needs the table -/
def purT (P : Addr) (q : Str) (p : PSp) : DSp := fun ds M k x => M = tabM P q ∧ p ds (fun r => k r (tabM P q)) (fun c fs => x c fs (tabM P q))
theorem MonoP.purT {P : Addr} {q : Str} {p : PSp} (h : MonoP p) : MonoD (purT P q p) := fun xs M k k' x x' hk hx ⟨e, z⟩ => ⟨e, h xs _ _ _ _ (fun r => hk r _) (fun c f => hx c f _) z⟩
section
variable {P : Program} {w : World} {K : PySem.W.Frag} {mg : Str → Option Value} {base : Heap}
theorem fn_okPT {x qual : Str} {st : Stmt} {f : Addr} {fd : FuncData} {N ps : List Str} {k n : Nat} {p : PSp} {dvs : List V} {kws : List (Str × V)} {PT : Addr} {q : Str} {cd : Value} (F : FunD K x qual (defArgs st) (defBody st) (defScope st) dvs kws f fd) (hcd : fd.code = cd) (S : FnScope N ps (defScope st)) (hn : ps.length = n)
    (body : ∀ (A : Around) (outer : List Env) (s : Shared) (H : Hp) (E : XK), Room k (A.deeper (envOfC qual (defScope st) s.heap.objs.size f cd)) →
      ∃ t, PSs (cxOf (L2.CX P w) P w K mg base N qual (defScope st) f cd A outer s H E) (defBody st) t ∧
        ∀ ds kk xx, ds.length = n → p ds kk xx → XS (cfg K E (fun c fs M => (∃ M1, M = M1 ++ tabM PT q) ∧ xx c fs)) t (dstart N ds) (tabM PT q) { nx := fun _ M => (∃ M1, M = M1 ++ tabM PT q) ∧ kk .non, rt := fun r M => (∃ M1, M = M1 ++ tabM PT q) ∧ kk r }) :
    FnOk P w K mg base (L2.CX P w) (k + 1) f fd ps (spD K n (purT PT q p)) := by
  refine fnOk_code F hcd S (fun vs H Q E h => (spD_len vs H Q E h).trans hn.symm) fun A outer s H vs Q E hr h => ?_
  obtain ⟨Fz, M, ds, st, r, hl, rfl, h⟩ := h
  obtain ⟨t, ht, hx⟩ := body A outer s H E hr
  have drop : ∀ {F' H' : Hp} {M' : Mem}, (∃ M1, M' = M1 ++ tabM PT q) → Nxt K Fz H (tabM PT q) F' H' M' → Nxt K Fz H (tabM PT q) F' H' (tabM PT q) := fun {F' H' M'} he n => by
    obtain ⟨M1, rfl⟩ := he
    exact n.trans (Nxt.drop (M1 := M1) n.st)
  refine ⟨t, ht, hx ds _ _ hl h Fz H _ st (EnvR.begun r) (fun ds0 σ0 cls fs M' F' H' d n _ q ex => q.2 d F' H' (drop q.1 n) ex) _ ⟨?_, ?_, ?_, ?_⟩⟩
  · exact fun ds' M' σ' F' H' n e q => q.2 .non F' H' (drop q.1 n) .non
  · exact fun d M' v F' H' n r q => q.2 v F' H' (drop q.1 n) r
  · exact fun ds' M' σ' F' H' n e q => False.elim q
  · exact fun ds' M' σ' F' H' n e q => False.elim q
end
/-- where the table stands among what is owned: it is brought to the end and back -/
theorem Stt.perm {K : PySem.W.Frag} {F H : Hp} {M M' : Mem} (s : Stt K F H M) (h : M.Perm M') : Stt K F H M' :=
  ⟨s.ex, fun p hp => s.mem p (h.mem_iff.mpr hp), (h.map (·.1)).nodup_iff.mp s.nd⟩
theorem Nxt.perm {K : PySem.W.Frag} {F H : Hp} {M M' : Mem} (s : Stt K F H M) (h : M.Perm M') : Nxt K F H M F H M' :=
  ⟨s.perm h, Ex.refl F, fun _ _ e _ => e, fun _ e _ _ _ => e, fun a m => .inl ((h.map (·.1)).mem_iff.mpr m), fun _ e => e⟩
theorem At.perm {M : Mem} {P : Addr} {m : MO} (h : At M P m) : ∃ M', M.Perm (M' ++ [(P, m)]) := by
  induction h with
  | @hd p m M => exact ⟨M, (List.perm_append_singleton _ _).symm⟩
  | @tl p m q M _ ih =>
    obtain ⟨M', h⟩ := ih
    exact ⟨q :: M', h.cons q⟩
section
variable {C : Cfg} {ds : DS} {M : Mem} {k : D → Mem → Prop} {ta : TE} {t : TA} {n : Nat} {p : PSp} {dvs : List V} {E : XK} {PT : Addr} {q : Str}
theorem spT_use {K : PySem.W.Frag} {F H : Hp} {xs : List D} {vs : List V} {Q : VK} {x : Value → List (Str × D) → Mem → Prop} (m : MonoP p) (s : Stt K F H M) (r : Reps K F xs vs) (hl : xs.length = n) (ha : At M PT (.tab fun _ _ => q))
    (h : p xs (fun r => k r M) (fun cls fs => x cls fs M)) (g : Go K F H M k Q) (c : ∀ cls fs M' d F' H', Nxt K F H M F' H' M' → x cls fs M' → ExD K F' H' d fs → E cls d H') : spD K n (purT PT q p) vs H Q E := by
  obtain ⟨M', hp⟩ := ha.perm
  have s2 := s.perm hp
  have n2 := Nxt.perm s hp
  have back : ∀ {F' H' : Hp}, Nxt K F H (tabM PT q) F' H' (tabM PT q) → Nxt K F H M F' H' M := fun {F' H'} nn => by
    have nw := n2.trans (Nxt.whole (Mr := M') s2 nn)
    exact nw.trans (Nxt.perm nw.st hp.symm)
  refine ⟨F, tabM PT q, xs, s2.part, r, hl, rfl, m _ _ _ _ _ (fun r z v F' H' nn rr => g r M v F' H' (back nn) rr z) (fun cls fs z d F' H' nn ex => c cls fs M d F' H' (back nn) z ex) h⟩
theorem XE.callT (m : MonoP p) (hE : ∀ σ, C.E σ = E) {dD : List D} (hd : ∀ F, Reps C.K F dD dvs) (h : XA C t ds M fun xs M1 => (xs ++ dD).length = n ∧ At M1 PT (.tab fun _ _ => q) ∧ p (xs ++ dD) (fun r => k r M1) (fun cls fs => C.x ds cls fs M1)) :
    XE C (tCall (spD C.K n (purT PT q p)) dvs E t) ds M k := fun F H σ s e c Q g =>
  h F H σ s e c _ fun xs M1 vs F1 H1 n1 r1 h1 => by
    obtain ⟨hl, ha, z⟩ := h1
    exact spT_use (x := C.x ds) m n1.st (r1.append (hd F1)) hl ha z (g.next n1) (fun cls fs M' d F' H' n2 hx ex => by
      rw [← hE σ]
      exact c ds σ cls fs M' F' H' d (n1.trans n2) (e.mono (n1.trans n2).ex) hx ex)
theorem XE.callNT {a mm : Nat} {tk : TA} {gV : List V → List V → List V} (m : MonoP p) (hE : ∀ σ, C.E σ = E) {gD : List D → List D → List D} (hg : ∀ F ds vs es us, ds.length = a → es.length = mm → Reps C.K F ds vs → Reps C.K F es us → Reps C.K F (gD ds es) (gV vs us))
    (h : XA C t ds M fun xs M1 => XA C tk ds M1 fun ys M2 => xs.length = a ∧ ys.length = mm ∧ (gD xs ys).length = n ∧ At M2 PT (.tab fun _ _ => q) ∧ p (gD xs ys) (fun r => k r M2) (fun cls fs => C.x ds cls fs M2)) :
    XE C (tCallN a mm (spD C.K n (purT PT q p)) gV E t tk) ds M k := fun F H σ s e c Q g =>
  h F H σ s e c _ fun xs M1 vs F1 H1 n1 r1 h1 => h1 F1 H1 σ n1.st (e.mono n1.ex) (c.next n1) _ fun ys M2 us F2 H2 n2 r2 h2 => by
    obtain ⟨ha, hm, hl, hA, z⟩ := h2
    have n12 := n1.trans n2
    refine ⟨by rw [← r1.length]; exact ha, by rw [← r2.length]; exact hm, ?_⟩
    exact spT_use (x := C.x ds) m n2.st (hg F2 xs vs ys us ha hm (r1.mono n2.ex) r2) hl hA z (g.next n12) (fun cls fs M' d F' H' n3 hx ex => by
      rw [← hE σ]
      exact c ds σ cls fs M' F' H' d (n12.trans n3) (e.mono (n12.trans n3).ex) hx ex)
end
/-! ### the end: the tables of the text's defs are empty when the law is called -/
theorem walk_ofDL {l : PySem.W.OpenLaw} {n k : Nat} {q : Program} {loose : List Str} {XP : (Str → Option Value) → Heap → Prop} {YP : World → Heap → Prop} {d : DefRec} {K : Params → PySem.W.Frag} {CX : World → CXT} {x : Str}
    (hn : l.most = some n) (hn2 : n ≤ sizeLine) (hdf : d.params.defaults = []) (hr : Room k callerA) (hY : ∀ (w : World) (h : Heap), YP w h → (K w.params).In h)
    (F : ∀ (w : World) (mg : Str → Option Value) (fa : Addr) (h : Heap), YP w h → (K w.params).In h → h.Ns mainGlobals mg → mg d.name = some (.ref fa) → (∀ (nm : Str) (f : Addr), ((recsOf q).any fun e => e.name == nm) = true → mg nm = some (.ref f) → LamX.OwnTab (K w.params) f h) → LamX.LawAtS l w (K w.params) (CX w) k n x mg fa h)
    (hCX : ∀ (w : World) (H : Hp) (s : Shared) (e : Value) (s' : Shared), CX w [] H s (fun _ _ _ => False) e s' → False) :
    PySem.W.WalkO q loose XP YP l.row.toRowW d [] (fun f vs => PySem.call f vs) := by
  refine Att.attach_callB hn hdf fun w s₀ s₁ mg mb fa o pm cd doc a vs ns G Y ho hd hcd hmg hobj hints hlen hbits hg => ?_
  have KX := hY w _ Y
  have own : ∀ (nm : Str) (f : Addr), ((recsOf q).any fun e => e.name == nm) = true → mg nm = some (.ref f) → LamX.OwnTab (K w.params) f s₁.heap := fun nm f hrec hmgf c P o1 fd1 e dd vs1 sl k1 k2 k3 k4 k5 => by
    obtain ⟨dL, hm, hn1⟩ := List.any_eq_true.mp hrec
    have hn2 : dL.name = nm := beq_iff_eq.mp hn1
    obtain ⟨a', o', fd', c', P', h1, h2, h3, h4, h5, h6⟩ := G.T.tab dL hm
    rw [hn2, hmgf] at h1
    cases h1
    have g1 := KX _ _ k1
    rw [g1] at h2
    cases h2
    rw [k2] at h3
    cases h3
    rw [k3] at h4
    cases h4
    obtain ⟨⟨oc, vc, e1, _, e3, e4⟩, hP⟩ := h6
    have g2 := KX _ _ k4
    rw [g2] at e1
    cases e1
    cases e3
    rw [k5] at e4
    cases e4
    exact hP
  obtain ⟨fd, cs, sp, hT, nT, C, hb, hsp, hF⟩ := F w mg fa _ Y KX G.T.g hmg own
  exact LamX.law_callTs KX G.T.g G.T.b G.T.builtins G.T.nolimit hg hT nT C G.T.bmain hobj hints (Nat.le_trans hlen hn2) hr hF hb (fun H hH hS => hsp H a ns hlen hbits hH hS) fun H e s' => hCX w H s₁ e s'
end DL

namespace DL
open PySem PySem.Spec PyProof.Rows L2 SX
/-! ### zip(d, l): the keys of a dict that stands still, and a list -/
section
variable {prog : Program} {w : World} {A : Around} {E : Value → Shared → Prop} {s : Shared}
theorem nextOf_key_item {it d : Addr} {i n ep : Nat} {od : Obj} {es : Array DictEntry} {en : DictEntry} {Q : Value → Shared → Prop} (hit : s.heap.IsKeyIter it d i n ep) (hod : s.heap.get? d = some od) (hdd : od.data = .dict es ep)
    (hsz : es.size = n) (hx : es[i]? = some en) (hQ : ∀ h', h'.IsKeyIter it d (i + 1) n ep → Heap.SameBut it s.heap h' → Q en.key { s with heap := h' }) : wpAny (model prog w) A (Builtin.SmallTypes.nextOf (.ref it)) Q E s := by
  obtain ⟨o, ho, hc, hd⟩ := id hit
  unfold Builtin.SmallTypes.nextOf
  refine wpAny_bind (wpAny_callSpecial?_slot (name := Str.ofString "__next__") hit.typeIs F.slot_dict_keyiterator_next
    (wpAny_call_entry F.slot_dict_keyiterator_next hit.typeIs F.entry_dict_keyiterator_next ?_ (F.args_dict_keyiterator_next_1 _)))
  refine wpAny_bind (wpAny_pure ?_)
  refine wpAny_bind ?_
  refine wpAny_bind ?_
  first | refine wpAny_bind (wpAny_typeNameOfWhole_keyiter hit.typeIs (wpAny_pure ?_)) | refine wpAny_bind (wpAny_typeNameOf_keyiter hit.typeIs (wpAny_pure ?_))
  refine wpAny_bind (wpAny_fieldsOf ho hd ?_)
  have hown : Builtin.Dict_items.ownsTuple "dict_keyiterator" = false := by decide
  simp only [hown, Bool.false_eq_true, if_false]
  show wpAny _ _ (if (Value.ref d == Value.none) = true then _ else _) _ _ s
  rw [if_neg (show ¬ ((Value.ref d == Value.none) = true) from Bool.false_ne_true)]
  refine wpAny_bind (wpAny_pure ?_)
  refine wpAny_bind (wpAny_dictEntries hod hdd ?_)
  rw [if_neg (by rw [hsz]; simp)]
  refine wpAny_bind (wpAny_pure ?_)
  refine wpAny_bind (wpAny_dictEpoch hod hdd ?_)
  rw [if_neg (by simp)]
  refine wpAny_pure ?_
  obtain ⟨hlt', hen⟩ := Array.getElem?_eq_some_iff.mp hx
  simp only [show ¬ ((i : Int) < 0) from by omega, if_false, Int.toNat_natCast, Array.getElem?_eq_getElem hlt']
  refine wpAny_bind ?_
  first | refine wpAny_bind (wpAny_typeNameOfWhole_keyiter hit.typeIs (wpAny_pure ?_)) | refine wpAny_bind (wpAny_typeNameOf_keyiter hit.typeIs (wpAny_pure ?_))
  refine wpAny_bind (wpAny_isOneOf_keyiter hit.typeIs ?_)
  show wpAny _ _ (setField (.ref it) 1 (rawInt ((i : Int) + 1)) >>= _) _ _ s
  refine wpAny_bind (wpAny_setField ho hd (by simp) ?_)
  have hit' : (s.heap.update it (Obj.mapFields (·.setIfInBounds 1 (rawInt ((i : Int) + 1))))).IsKeyIter it d (i + 1) n ep :=
    ⟨_, Heap.get?_update_self _ ho (Obj.isFreed_of_fields (Obj.data_mapFields hd _)), (Obj.cls_mapFields ..).trans hc, by rw [Obj.data_mapFields hd]; simp [rawInt]⟩
  refine wpAny_bind (wpAny_holding ?_)
  refine wpAny_bind (wpAny_isOneOf_keyiter (s := { s with heap := s.heap.update it (Obj.mapFields (·.setIfInBounds 1 (rawInt ((i : Int) + 1)))) }) hit'.typeIs ?_)
  show wpAny _ _ (pure es[i].key) _ _ _
  rw [hen]
  exact wpAny_pure (wpAny_pure ⟨_, rfl, wpAny_pure (hQ _ hit' (Heap.SameBut.update ..))⟩)
theorem nextOf_key_end {it d : Addr} {i n ep : Nat} {od : Obj} {es : Array DictEntry} {Q : Value → Shared → Prop} (hh : A.handled = none) (hit : s.heap.IsKeyIter it d i n ep) (hod : s.heap.get? d = some od) (hdd : od.data = .dict es ep)
    (hsz : es.size = n) (hge : n ≤ i) (hE : ∀ h' e, Heap.ExtBut it s.heap h' → (∃ o, h'.get? e = some o ∧ o.cls = .type "StopIteration") → E (.ref e) { s with heap := h' }) : wpAny (model prog w) A (Builtin.SmallTypes.nextOf (.ref it)) Q E s := by
  obtain ⟨o, ho, hc, hd⟩ := id hit
  unfold Builtin.SmallTypes.nextOf
  refine wpAny_bind (wpAny_callSpecial?_slot (name := Str.ofString "__next__") hit.typeIs F.slot_dict_keyiterator_next
    (wpAny_call_entry F.slot_dict_keyiterator_next hit.typeIs F.entry_dict_keyiterator_next ?_ (F.args_dict_keyiterator_next_1 _)))
  refine wpAny_bind (wpAny_pure ?_)
  refine wpAny_bind ?_
  refine wpAny_bind ?_
  first | refine wpAny_bind (wpAny_typeNameOfWhole_keyiter hit.typeIs (wpAny_pure ?_)) | refine wpAny_bind (wpAny_typeNameOf_keyiter hit.typeIs (wpAny_pure ?_))
  refine wpAny_bind (wpAny_fieldsOf ho hd ?_)
  have hown : Builtin.Dict_items.ownsTuple "dict_keyiterator" = false := by decide
  simp only [hown, Bool.false_eq_true, if_false]
  show wpAny _ _ (if (Value.ref d == Value.none) = true then _ else _) _ _ s
  rw [if_neg (show ¬ ((Value.ref d == Value.none) = true) from Bool.false_ne_true)]
  refine wpAny_bind (wpAny_pure ?_)
  refine wpAny_bind (wpAny_dictEntries hod hdd ?_)
  rw [if_neg (by rw [hsz]; simp)]
  refine wpAny_bind (wpAny_pure ?_)
  refine wpAny_bind (wpAny_dictEpoch hod hdd ?_)
  rw [if_neg (by simp)]
  refine wpAny_pure ?_
  have hge' : es.size ≤ i := by rw [hsz]; exact hge
  simp only [show ¬ ((i : Int) < 0) from by omega, if_false, Int.toNat_natCast, Array.getElem?_eq_none hge']
  refine wpAny_bind ?_
  first | refine wpAny_bind (wpAny_typeNameOfWhole_keyiter hit.typeIs (wpAny_pure ?_)) | refine wpAny_bind (wpAny_typeNameOf_keyiter hit.typeIs (wpAny_pure ?_))
  show wpAny _ _ (setField (.ref it) 0 .none >>= _) _ _ s
  refine wpAny_bind (wpAny_setField ho hd (by simp) ?_)
  show wpAny _ _ (newExc (.type "StopIteration") [] >>= _) _ _ _
  refine wpAny_bind ?_
  simp only [newExc, newTuple]
  refine wpAny_bind (wpAny_newObj_type ?_ (by size_fits))
  refine wpAny_bind (m := firstArgMember _ _) (wpAny_of_eq (a := Value.none) (by first | rfl | (simp only [firstArgMember]; rfl)) ?_)
  refine wpAny_newObj_type ?_ (by size_fits)
  simp only [raiseNew]
  refine wpAny_bind (wpAny_handled ?_)
  first | rw [show A.in1.handled = none from hh] | rw [hh]
  refine wpAny_bind (wpAny_pure (wpAny_throw ?_))
  exact hE _ _ (((Heap.SameBut.update ..).extBut.push _).push _) ⟨_, Heap.get?_push_size _ rfl, rfl⟩
end
def KeySt (d I : Addr) (o : Obj) (n ep : Nat) (i : Nat) (h : Heap) : Prop := h.IsKeyIter I d i n ep ∧ h.get? d = some o
theorem drawsKey {prog : Program} {w : World} {A : Around} (hh : A.handled = none) {d I : Addr} (hne : d ≠ I) {o : Obj} {es : Array DictEntry} {ep : Nat} (hd : o.data = .dict es ep) :
    Draws prog w A I [I, d] es.size (fun i v => ∃ en, es[i]? = some en ∧ v = en.key) (KeySt d I o es.size ep) where
  live := fun _ _ st => let ⟨o, ho, _⟩ := st.1; ⟨o, ho⟩
  frame := fun _ _ _ st hk => ⟨st.1.at fun o e => hk I (by simp) o e, hk d (by simp) _ st.2⟩
  item := fun i s Q E hi st hQ => by
    refine nextOf_key_item st.1 st.2 hd rfl (en := es[i]) (by simp [hi]) fun h' hit' hs' => ?_
    exact hQ _ h' s.toks ⟨_, by simp [hi], rfl⟩ ⟨hit', hs'.extBut _ _ hne st.2⟩ hs'
  done := fun s Q E st hE => nextOf_key_end hh st.1 st.2 hd rfl (Nat.le_refl _) hE
theorem begins_key {d : Addr} {o : Obj} {es : Array DictEntry} {ep : Nat} (hs : (d == sysModules) = false) (hx : o.ExactDict) (hd : o.data = .dict es ep) :
    Begins (.ref d) { cls := .type "dict_keyiterator", data := .fields #[.ref d, rawInt 0, rawInt es.size, rawInt ep] } fun h => h.get? d = some o where
  iter := fun prog w A E s Q hl h => iter_keys hs hl hx hd (by exact h)
  keeps := fun h h' x hk => hk _ _ x
  free := rfl
def ItzK (K : PySem.W.Frag) (d : Addr) (o : Obj) (kvs : List (Key × V)) (b : Addr) : It :=
  ⟨fun i H => H d = some (.frz o (.dK kvs)) ∧ ∃ ys : List V, SqL K H b ys ∧ ys.length = kvs.length ∧ i < kvs.length,
    fun i H v H' => ∃ T k v' y, v = .ref T ∧ H T = none ∧ H' = upd H T (.tup [kV k, y]) ∧ kvs[i]? = some (k, v') ∧ ∀ ys, SqL K H b ys → ys[i]? = some y,
    fun i H => H d = some (.frz o (.dK kvs)) ∧ ∃ ys : List V, SqL K H b ys ∧ ys.length = kvs.length ∧ kvs.length ≤ i⟩
theorem turn_zipK {P : Program} {w : World} {K : PySem.W.Frag} {elts : List Expr} {kk : Nat} {tpos : Pos} {d b z TI TO i1 i2 : Addr} {o : Obj} {es : Array DictEntry} {ep : Nat} {kvs : List (Key × V)} (hd : o.data = .dict es ep)
    (S : ZipSep2 z TI TO i1 i2 [i1, d] [i2, b]) :
    Turn P w K (.Tuple elts kk tpos) (ItzK K d o kvs b) [z, TI, TO, i1, i2] z (fun i h => IsZip h z TI TO .none ∧ IsTupOf2 h TI (.ref i1) (.ref i2) ∧ (∃ x y, IsTupOf2 h TO x y) ∧ h.IsKeyIter i1 d i es.size ep ∧ h.IsListIter i2 b i ∧ i ≤ es.size) where
  mem := by simp
  obj := fun i h st c hc => by
    obtain ⟨hz, hTI, ⟨x, y, hTO⟩, ⟨o1, e1, _, d1⟩, ⟨o2, e2, _, d2⟩, _⟩ := st
    have e' : c = z ∨ c = TI ∨ c = TO ∨ c = i1 ∨ c = i2 := by simpa using hc
    rcases e' with q | q | q | q | q
    · rw [q]; exact ⟨_, hz, fun v q => nomatch q⟩
    · rw [q]; exact ⟨_, hTI, fun v q => nomatch q⟩
    · rw [q]; exact ⟨_, hTO, fun v q => nomatch q⟩
    · rw [q]; exact ⟨o1, e1, fun v q => by rw [d1] at q; cases q⟩
    · rw [q]; exact ⟨o2, e2, fun v q => by rw [d2] at q; cases q⟩
  keep := fun i h h' st k => by
    obtain ⟨hz, hTI, ⟨x, y, hTO⟩, h1, h2, hle⟩ := st
    exact ⟨k z (by simp) _ hz, k TI (by simp) _ hTI, ⟨x, y, k TO (by simp) _ hTO⟩, h1.at fun o q => k i1 (by simp) o q, h2.at fun o q => k i2 (by simp) o q, hle⟩
  item := by
    intro X hP hw hK hc i pins s σ H E I hf st hg
    subst hP hw hK
    obtain ⟨hz, hTI, ⟨x0, y0, hTO⟩, h1, h2, hle⟩ := st
    obtain ⟨hdd, ys, hqy, hly, hi⟩ := hg
    obtain ⟨hs, hgd, hx, es', ep', vs, hdt, hsz, kv, hm⟩ := I.frzK hdd
    obtain ⟨rfl, rfl⟩ := dict_ep hd hdt
    obtain ⟨its2, rv2, p2, _⟩ := I.list hqy
    obtain ⟨⟨k, v⟩, hkv⟩ : ∃ p, kvs[i]? = some p := ⟨kvs[i], List.getElem?_eq_getElem hi⟩
    obtain ⟨u1, hu1, ru1⟩ := kv_get kv hkv
    have hiy : i < ys.length := by omega
    have hy : ys[i]? = some ys[i] := List.getElem?_eq_getElem hiy
    obtain ⟨u2, hu2, ru2⟩ := rv2.get hy
    have hl2 : its2.toArray.size = ys.length := by simp; exact rv2.length.symm
    have hA : X.A.in1.handled = none := I.ok.hd hc
    have hzl : z < s.heap.objs.size := Heap.lt_size hz
    have hdi : d ≠ i1 := fun e2 => by
      obtain ⟨ok, hok, hck, hdk⟩ := id h1
      rw [← e2, hgd] at hok
      cases hok
      rw [hd] at hdk
      cases hdk
    have hbi : b ≠ i2 := fun e => by
      obtain ⟨o2, ho2, hc2, hd2⟩ := id h2
      obtain ⟨ol, hol, hcl⟩ := (p2.isList.typeIs : s.TypeIs (.ref b) "list")
      rw [e, ho2] at hol
      cases hol
      rw [hc2] at hcl
      simp at hcl
    have D1 := drawsKey (prog := X.prog) (w := X.w) (A := X.A.in1) hA hdi hd
    have D2 := Draws.list (prog := X.prog) (w := X.w) (A := X.A.in1) hA i2 b hbi its2.toArray
    refine wpAny_pyNext_zipD2_item S D1 D2 hz hTI hTO (i := i) ⟨h1, hgd⟩ ⟨h2, p2.isList⟩ (by rw [hsz]; exact hi) (by rw [hl2]; exact hiy) fun x1 x2 h' tk y1 y2 z' TO' d1 d2 hT hsz' hk => ?_
    obtain ⟨en, hen, rfl⟩ := y1
    have e2 : x2 = u2 := by
      have : its2.toArray[i]? = some u2 := by simpa using hu2
      rw [this] at y2
      exact (Option.some.inj y2).symm
    subst e2
    obtain ⟨od, es'', hod, hcd, hdd', hk', hp, hn⟩ := id hm
    rw [hgd] at hod
    cases hod
    obtain ⟨rfl, _⟩ := dict_ep hdd' hd
    have hkey : keyIs k en.key = true := (hp.get? (e := en) (by simpa using hen) hu1).1
    refine ⟨_, rfl, wpAny_letOwnedTupleGo_zip (s := { s with heap := h', toks := tk }) z' fun h'' z'' sb => ?_⟩
    have hT2 : h''.get? s.heap.objs.size = some { cls := .type "tuple", data := .seq #[en.key, x2] } := (sb.2 _ (Nat.ne_of_gt hzl)).trans hT
    have new : ObjOk X.prog X.w (upd H s.heap.objs.size (.tup [kV k, ys[i]])) h'' s.heap.objs.size (.tup [kV k, ys[i]]) :=
      ⟨by show 2 ≤ sizeLine; decide, [en.key, x2], .cons (relV_key hkey) (.cons ru2 .nil), ⟨_, hT2, rfl, _, rfl⟩⟩
    have I1 : Inv X pins σ (upd H s.heap.objs.size (.tup [kV k, ys[i]])) { s with heap := h'', toks := tk } :=
      I.turnedNew (t' := tk) (ch := [z, TI, TO, i1, i2]) (fun c o hb q => (sb.2 c (fun q' => hb (by simp [q']))).trans (hk c o (fun q' => hb (by simp [q'])) (fun q' => hb (by simp [q'])) (fun q' => hb (by simp [q'])) (fun q' => hb (by simp [q'])) q)) hf (Nat.le_refl _) new
    refine ⟨.ref s.heap.objs.size, _, I1, rfl, ⟨_, k, v, ys[i], rfl, I.hok.fresh (Nat.le_refl _), rfl, hkv, fun l hl => by rw [I.list_inj hl hqy]; exact hy⟩, ⟨z'', ?_, ⟨en.key, x2, ?_⟩, ?_, ?_, by rw [hsz]; exact hi⟩, fun c hcm => ?_⟩
    · exact (sb.2 _ S.TIz).trans (hk _ _ S.TIz S.TITO S.TIi1 S.TIi2 hTI)
    · exact (sb.2 _ S.TOz).trans TO'
    · exact d1.1.at fun o q => (sb.2 _ S.zi1.symm).trans q
    · exact d2.1.at fun o q => (sb.2 _ S.zi2.symm).trans q
    · have hlt : c < s.heap.objs.size := by
        have e' : c = z ∨ c = TI ∨ c = TO ∨ c = i1 ∨ c = i2 := by simpa using hcm
        rcases e' with q | q | q | q | q
        · rw [q]; exact hzl
        · rw [q]; exact Heap.lt_size hTI
        · rw [q]; exact Heap.lt_size hTO
        · rw [q]; obtain ⟨_, e1, _⟩ := h1; exact Heap.lt_size e1
        · rw [q]; obtain ⟨_, e2, _⟩ := h2; exact Heap.lt_size e2
      rw [upd_ne (Nat.ne_of_lt hlt)]
      exact (hf c hcm).1
  done := by
    intro X hP hw hK hc i pins s σ H E I hf st hg
    subst hP hw hK
    obtain ⟨hz, hTI, ⟨x0, y0, hTO⟩, h1, h2, hle⟩ := st
    obtain ⟨hdd, ys, hqy, hly, hi⟩ := hg
    obtain ⟨hs, hgd, hx, es', ep', vs, hdt, hsz, kv, hm⟩ := I.frzK hdd
    obtain ⟨rfl, rfl⟩ := dict_ep hd hdt
    obtain ⟨its2, rv2, p2, _⟩ := I.list hqy
    have hl2 : its2.toArray.size = ys.length := by simp; exact rv2.length.symm
    have hA : X.A.in1.handled = none := I.ok.hd hc
    have hdi : d ≠ i1 := fun e2 => by
      obtain ⟨ok, hok, hck, hdk⟩ := id h1
      rw [← e2, hgd] at hok
      cases hok
      rw [hd] at hdk
      cases hdk
    have hbi : b ≠ i2 := fun e => by
      obtain ⟨o2, ho2, hc2, hd2⟩ := id h2
      obtain ⟨ol, hol, hcl⟩ := (p2.isList.typeIs : s.TypeIs (.ref b) "list")
      rw [e, ho2] at hol
      cases hol
      rw [hc2] at hcl
      simp at hcl
    have D1 := drawsKey (prog := X.prog) (w := X.w) (A := X.A.in1) hA hdi hd
    have D2 := Draws.list (prog := X.prog) (w := X.w) (A := X.A.in1) hA i2 b hbi its2.toArray
    exact wpAny_pyNext_zipD2_end S D1 D2 hz hTI hTO (i := i) ⟨h1, hgd⟩ ⟨h2, p2.isList⟩ (by omega) (by omega) (by omega) fun h' tk hk => ⟨rfl, I.turnedL (t' := tk) (ch := [z, TI, TO, i1, i2]) (fun c o hb q =>
      hk c o (fun q' => hb (by simp [q'])) (fun q' => hb (by simp [q'])) (fun q' => hb (by simp [q'])) (fun q' => hb (by simp [q'])) q) hf⟩
  self := fun A i s Q E st h => wpAny_pyIter_zip st.1 h
theorem zsep {n d b : Nat} (ld : d < n) (lb : b < n) : ZipSep2 (n + 4) (n + 2) (n + 3) n (n + 1) [n, d] [n + 1, b] := by
  constructor <;> simp only [List.mem_cons, List.not_mem_nil, or_false, not_or, ne_eq, true_or] <;> (repeat' apply And.intro) <;> (intro e; have e : @Eq Nat _ _ := e; omega)
def iZipD (K : PySem.W.Frag) (ta : TA) : TI := fun σ H R => ta σ H fun vs H1 => ∃ d b o kvs ys, vs = [.ref d, .ref b] ∧ H1 d = some (.frz o (.dK kvs)) ∧ SqL K H1 b ys ∧ ys.length = kvs.length ∧ R (ItzK K d o kvs b) H1
theorem pi_zipD {X : Cx} {e e2 : Expr} {ta : TA} {p pos tpos : Pos} {elts : List Expr} {kk : Nat} (hg : Gl X "zip") (hm : X.mg "zip" = none) (ha : PA X [e, e2] ta)
    (hs : starEach [e, e2] X.env = (false, eval e X.env) :: starEach [e2] X.env := by rfl) (hpl : (backTo pos (starEach [e2] X.env)).any (·.1) = false := by rfl) :
    PI X (.Tuple elts kk tpos) (.Call (.Name "zip" p) [e, e2] [] pos) (iZipD X.K ta) := by
  refine ⟨fun pins s σ H R I h => ?_⟩
  refine Call_ (ld_blt I hg hm PyProof.Rows.boot_zip (PyProof.Rows.callWith_type1 (thn (ha.run pos pins s σ H _ I h) fun us s1 ⟨vs, H1, I1, r1, q1⟩ => ?_) hs hpl))
  obtain ⟨d, b, o, kvs, ys, ex, hdd, hqy, hly, q⟩ := q1
  subst ex
  cases r1 with
  | cons r rr =>
    cases rr with
    | cons r' rr =>
      cases rr
      cases r
      cases r'
      obtain ⟨hsm, hgd, hx, es, ep, vs, hdt, hsz, kv, hm'⟩ := I1.frzK hdd
      obtain ⟨its2, rv2, p2, _⟩ := I1.list hqy
      have fresh5 : ∀ c, c ∈ [s1.heap.objs.size + 4, s1.heap.objs.size + 2, s1.heap.objs.size + 3, s1.heap.objs.size, s1.heap.objs.size + 1] → FpOk X pins H1 c := fun c hcm => by
        have e' : c = s1.heap.objs.size + 4 ∨ c = s1.heap.objs.size + 2 ∨ c = s1.heap.objs.size + 3 ∨ c = s1.heap.objs.size ∨ c = s1.heap.objs.size + 1 := by simpa using hcm
        have hle : s1.heap.objs.size ≤ c := by omega
        exact I1.fpOk hle (I1.hok.fresh hle)
      have ld : d < s1.heap.objs.size := Heap.lt_size hgd
      have lb : b < s1.heap.objs.size := p2.lt
      refine zip_begins2 (begins_key hsm hx hdt) (begins_list b its2.toArray) hgd p2.isList fun h' hz hTI hTO h1 h2 hsz' hk => wpAny_pyIter_zip hz ?_
      have I2 : Inv X pins σ H1 { s1 with heap := h' } := I1.kept (t' := s1.toks) hk
      refine ⟨s1.heap.objs.size + 4, [s1.heap.objs.size + 4, s1.heap.objs.size + 2, s1.heap.objs.size + 3, s1.heap.objs.size, s1.heap.objs.size + 1], _, _, H1, rfl, I2, turn_zipK (b := b) hdt ?_, ⟨hz, hTI, ⟨_, _, hTO⟩, ⟨_, h1, rfl, rfl⟩, ⟨_, h2, rfl, rfl⟩, Nat.zero_le _⟩, fresh5, q⟩
      exact zsep ld lb
/-! ### list(range(n)) -/
theorem rgV_eq (n : Nat) : ∀ (F : Hp) {K : PySem.W.Frag}, Reps K F (rngD 0 n) (rgV 0 (n : Int)) := fun F K => by
  have e1 : rngD 0 n = ((List.range n).map fun i => (0 : Int) + (i : Nat)).map D.int := by
    unfold rngD
    rw [List.map_map]
    rfl
  have e2 : rgV 0 (n : Int) = ((List.range n).map fun i => (0 : Int) + (i : Nat)).map V.int := by
    unfold rgV
    rw [List.map_map, Int.sub_zero, Int.toNat_natCast]
    rfl
  rw [e1, e2]
  exact Reps.ofInts _
theorem XE.lrg {C : Cfg} {ds : DS} {M : Mem} {k : D → Mem → Prop} {ta : TE} (h : XE C ta ds M fun x M1 => ∃ n : Nat, x = .int n ∧ n ≤ 1000000 ∧ ∀ p, p ∉ dom M1 → k (.raw p) ((p, .lst (rngD 0 n)) :: M1)) : XE C (tLstRg (tRg1 ta)) ds M k := fun F H σ s e c Q g =>
  h F H σ s e c _ fun x M1 v F1 H1 n1 r1 h1 => by
    obtain ⟨n, rfl, hn, q⟩ := h1
    cases r1
    refine ⟨_, rfl, RgOk.of_le (by omega) (by omega) (by omega) (by omega), fun p hp => ?_⟩
    have nx := Nxt.newM n1.st (o := .lst (rgV 0 (n : Int))) (m := .lst (rngD 0 n)) hp ⟨_, rfl, rgV_eq n F1⟩
    exact g _ _ _ _ _ (n1.trans nx) (.raw p) (q p (n1.st.out hp))
/-! ### what zip(d, l) gives -/
theorem items_zipD {F0 : Hp} {K : PySem.W.Frag} {d b : Addr} {o : Obj} {es : List (Key × D)} {ys : List D} {kvs : List (Key × V)} {us : List V} (h : F0 d = some (.frz o (.dK kvs))) (h' : SqL K F0 b us) (r : RepK K F0 es kvs) (r' : Reps K F0 ys us) (hl : es.length = ys.length) :
    Items K F0 (ItzK K d o kvs b) (zipD (es.map fun e => keyD e.1) ys) := fun i F H M e s => by
  have hq : H d = some (.frz o (.dK kvs)) := s.ex _ _ (e _ _ h)
  have hq' : SqL K H b us := ex_l (e.trans s.ex) h'
  have l1 := r.length
  have l2 := r'.length
  refine ⟨fun x hx => ?_, fun hl' => ⟨hq, us, hq', by omega, ?_⟩⟩
  · obtain ⟨d1, d2, e1, e2, rfl⟩ := zipD_get hx
    obtain ⟨ee, h1, rfl⟩ := map_get' e1
    obtain ⟨v, hv, rv⟩ := r.get h1
    obtain ⟨u, hu, ru⟩ := r'.get e2
    have hi : i < kvs.length := (List.getElem?_eq_some_iff.mp hv).1
    refine ⟨⟨hq, us, hq', by omega, hi⟩, fun w H2 y => ?_⟩
    obtain ⟨T, k, v', x', rfl, hT, rfl, y, y'⟩ := y
    have e4 := y' us hq'
    rw [hv] at y
    rw [hu] at e4
    cases y
    cases e4
    have n := Nxt.newF s (o := .tup [kV ee.1, u]) hT
    exact ⟨_, n, .tup (.inl (.inl upd_same)) (.cons (Rep.ofKey _) (.cons ((ru.mono e).mono n.ex) .nil))⟩
  · have e9 : (zipD (es.map fun e => keyD e.1) ys).length = es.length := by
      unfold zipD
      rw [List.length_map, List.length_zip, List.length_map]
      omega
    rw [e9] at hl'
    omega
theorem XI.zipK {C : Cfg} {ds : DS} {M : Mem} {kl : List D → Mem → Prop} {t : TA} (h : XA C t ds M fun zs M1 => ∃ es ys, zs = [.fdct es, .lst ys] ∧ es.length = ys.length ∧ kl (zipD (es.map fun e => keyD e.1) ys) M1) : XI C (iZipD C.K t) ds M kl := fun F H σ s e c R g =>
  h F H σ s e c _ fun zs M1 v F1 H1 n1 r1 h1 => by
    obtain ⟨es, ys, rfl, hl, q⟩ := h1
    cases r1 with
    | cons r1 r2 =>
      cases r2 with
      | cons r2 r3 =>
        cases r3
        cases r1 with
        | @fdct a _ kvs o h1 q1 =>
          cases r2 with
          | @lst b us _ h2 q2 => exact ⟨a, b, o, kvs, us, rfl, n1.st.ex _ _ h1, SqL.of (n1.st.ex _ _ h2), (by rw [← q1.length, ← q2.length, hl]), g _ M1 _ F1 H1 n1 (items_zipD h1 (SqL.of h2) q1 q2 hl) q⟩
end DL

namespace DL
open PySem PySem.Spec PyProof.Rows L2 SX
theorem cr_allK {X : Cx} {K : PySem.W.Frag} (h : X.K = K) (hc : X.calm = true) : CallR X (.builtin "all") (rAll K) := by subst h; exact cr_all hc
theorem cr_sumK {X : Cx} {K : PySem.W.Frag} (h : X.K = K) (hc : X.calm = true) : CallR X (.builtin "sum") (rSum K) := by subst h; exact cr_sum hc
theorem cr_minDK {X : Cx} {K : PySem.W.Frag} (h : X.K = K) (hc : X.calm = true) (hu : X.A.units + 65 < cLine) : CallR X (.builtin "min") (rMinD K) := by subst h; exact cr_minD hc hu
theorem pi_zipDK {X : Cx} {K : PySem.W.Frag} (h : X.K = K) {e e2 : Expr} {ta : TA} {p pos tpos : Pos} {elts : List Expr} {kk : Nat} (hg : Gl X "zip") (hm : X.mg "zip" = none) (ha : PA X [e, e2] ta)
    (hs : starEach [e, e2] X.env = (false, eval e X.env) :: starEach [e2] X.env := by rfl) (hpl : (backTo pos (starEach [e2] X.env)).any (·.1) = false := by rfl) :
    PI X (.Tuple elts kk tpos) (.Call (.Name "zip" p) [e, e2] [] pos) (iZipD K ta) := by subst h; exact pi_zipD hg hm ha hs hpl
theorem in_addI {X : Cx} : InOp X .Add (rI0 fun i j => .int (i + j)) := by
  rintro pins s σ H x y u v Q I rx ry ⟨i, j, rfl, rfl, q⟩
  obtain ⟨t, rfl⟩ := (show ∃ t, u = Value.int i t from rx)
  obtain ⟨t', rfl⟩ := (show ∃ t', v = Value.int j t' from ry)
  exact PyProof.Rows.iadd_int ⟨.int (i + j), H, I.tok _, ⟨_, rfl⟩, q⟩
/-- a def with one keyword-only default -/
def fnT_mkK {K : PySem.W.Frag} {mg : Str → Option Value} {h : Heap} (X : K.In h) (G : h.Ns mainGlobals mg) {x y : Str} {st : Stmt} {f Dk : Addr} {oc : Value} {od an : Option Addr} {osl : Array (Option Value)} {doc pm cdv ct u : Value} {v : V} (a : PySem.W.nsIn K mainGlobals x = some (some (.ref f)))
    (l : K.lookup f = some ⟨oc, od, .func (PySem.W.fnOf x x (defArgs st) (defBody st) (defScope st) .none (.ref Dk) doc pm an cdv ct), osl⟩) (c : PySem.W.codeIn K cdv x = true) (k : PySem.W.keepIn K (.ref f) = true) (g : PySem.W.nsIn K Dk y = some (some u)) (r : RelV v u) : FnT K mg x st [] [(y, v)] :=
  ⟨f, _, ⟨⟨oc, od, .none, .ref Dk, doc, pm, an, cdv, ct, osl, rfl, l, c, .inl ⟨rfl, rfl⟩, .inr ⟨Dk, rfl, fun q hq => by rw [List.mem_singleton.mp hq]; exact ⟨u, g, r⟩⟩⟩, k⟩, PySem.W.mg_of X G a⟩
/-- promises as a relation between what comes and what is given -/
def spR (R : List D → D → Prop) : PSp := fun ds k _ => ∃ r, R ds r ∧ k r
theorem mo_R {R : List D → D → Prop} : MonoP (spR R) := fun _ _ _ _ _ hk _ ⟨r, h, q⟩ => ⟨r, h, hk _ q⟩
theorem mo_T {P : Addr} {q : Str} {R : List D → D → Prop} : MonoD (purT P q (spR R)) := MonoP.purT mo_R
end DL
namespace DL
open PySem PySem.Spec PyProof.Rows L2 SX
/-! ### bool - bool -/
def i01 (b : Bool) : Int := if b then 1 else 0
theorem gives_bool_sub (a b : Bool) : Gives (Builtin.«int.__sub__» ⟨[.bool a, .bool b], []⟩) (.int (i01 a - i01 b)) := by
  cases a <;> cases b <;> exact .of_eq rfl
def rSubB : R2 := fun x y H Q => ∃ a b, x = .bl a ∧ y = .bl b ∧ Q (.int (i01 a - i01 b)) H
theorem op_subB {X : Cx} : OpR X (binaryOp .Sub) rSubB := by
  rintro pins s σ H x y u v Q I rx ry ⟨a, b, rfl, rfl, q⟩
  cases rx
  cases ry
  exact binaryOp_gives (op := .Sub) (T := "bool") rfl rfl F.fills_bool_sub F.slot_bool_sub F.entry_int_sub (F.args_int_sub_2 _ _) (gives_bool_sub a b) trivial ⟨.int (i01 a - i01 b), H, I.tok _, ⟨_, rfl⟩, q⟩
theorem XR.subB {K : PySem.W.Frag} {M : Mem} {k : D → Mem → Prop} {a b : Bool} (h : k (.int (i01 a - i01 b)) M) : XR K rSubB (.bl a) (.bl b) M k := fun F H v u s r1 r2 Q g => by
  cases r1
  cases r2
  exact ⟨a, b, rfl, rfl, g.now s (.int _) h⟩
end DL

namespace DL
open PySem
/-! ### two timetables: the plain law -/
theorem den1 {q : Rat} : q.den = 1 ↔ (q.floor : Rat) = q := by
  constructor
  · intro h
    have e : q.floor = q.num := by rw [Rat.floor_def, h]; simp
    rw [e]
    exact Rat.ext (by simp) (by simp [h])
  · intro h
    rw [← h]
    simp
def posAt : List Kn → Rat → Rat
  | [], _ => 0
  | [k], _ => k.2
  | k :: k' :: r, t => if t < k'.1 then k.2 + (k'.2 - k.2) / (k'.1 - k.1) * (t - k.1) else posAt (k' :: r) t
def paceAt : List Kn → Rat → Rat
  | [], _ => 0
  | [_], _ => 0
  | k :: k' :: r, t => if t < k'.1 then (k'.2 - k.2) / (k'.1 - k.1) else paceAt (k' :: r) t
def pieceAt : List Kn → Rat → Nat
  | [], _ => 0
  | [_], _ => 0
  | _ :: k' :: r, t => if t < k'.1 then 0 else pieceAt (k' :: r) t + 1
def firstT : List Kn → Rat
  | [] => 0
  | k :: _ => k.1
def firstX : List Kn → Rat
  | [] => 0
  | k :: _ => k.2
theorem Asc.tail {k : Kn} {ks : List Kn} (h : Asc (k :: ks)) : Asc ks := fun i a b h1 h2 => h (i + 1) a b h1 h2
theorem Asc.head {k k' : Kn} {ks : List Kn} (h : Asc (k :: k' :: ks)) : k.1 < k'.1 := h 0 k k' rfl rfl
/-- the piece at the index -/
theorem piece_ok : ∀ {ks : List Kn}, ks ≠ [] → ∀ t, ∃ k, ks[pieceAt ks t]? = some k ∧ (ks[pieceAt ks t + 1]? = none → posAt ks t = k.2 ∧ paceAt ks t = 0) ∧
    ∀ k', ks[pieceAt ks t + 1]? = some k' → t < k'.1 ∧ paceAt ks t = (k'.2 - k.2) / (k'.1 - k.1) ∧ posAt ks t = k.2 + (k'.2 - k.2) / (k'.1 - k.1) * (t - k.1)
  | [], h, _ => absurd rfl h
  | [k], _, t => ⟨k, rfl, fun _ => ⟨rfl, rfl⟩, fun k' h => by simp [pieceAt] at h⟩
  | k :: k' :: r, _, t => by
    by_cases h : t < k'.1
    · refine ⟨k, by simp [pieceAt, h], fun z => by simp [pieceAt, h] at z, fun k2 z => ?_⟩
      simp [pieceAt, h] at z
      subst z
      exact ⟨h, by simp [paceAt, h], by simp [posAt, h]⟩
    · obtain ⟨k2, h1, h2, h3⟩ := piece_ok (ks := k' :: r) (by simp) t
      refine ⟨k2, by simpa [pieceAt, h] using h1, fun z => ?_, fun k3 z => ?_⟩
      · have := h2 (by simpa [pieceAt, h] using z)
        simpa [posAt, paceAt, h] using this
      · have := h3 k3 (by simpa [pieceAt, h] using z)
        simpa [posAt, paceAt, h] using this
theorem pieceAt_lt : ∀ {ks : List Kn}, ks ≠ [] → ∀ t, pieceAt ks t < ks.length
  | [], h, _ => absurd rfl h
  | [_], _, _ => by simp [pieceAt]
  | _ :: k' :: r, _, t => by
    have := pieceAt_lt (ks := k' :: r) (by simp) t
    unfold pieceAt
    split
    · simp
    · simp only [List.length_cons] at this ⊢
      omega
/-- the loop that finds it -/
theorem piece_step : ∀ {ks : List Kn} {t : Rat} (i : Nat), Asc ks → i + 1 < ks.length → (∀ j a, 1 ≤ j → j ≤ i → ks[j]? = some a → ¬ t < a.1) → ∀ k', ks[i + 1]? = some k' → (t < k'.1 → pieceAt ks t = i)
  | [], _, _, _, h, _ => by simp at h
  | [_], _, _, _, h, _ => by simp at h
  | k :: k' :: r, t, 0, _, _, _ => fun k2 e h => by
    simp at e
    subst e
    simp [pieceAt, h]
  | k :: k' :: r, t, i + 1, hA, hl, h => fun k2 e h2 => by
    have h0 : ¬ t < k'.1 := h 1 k' (by omega) (by omega) rfl
    have := piece_step (ks := k' :: r) (t := t) i hA.tail (by simpa using hl) (fun j a h1 h3 e => h (j + 1) a (by omega) (by omega) e) k2 e h2
    simp [pieceAt, h0, this]
theorem piece_end : ∀ {ks : List Kn} {t : Rat} (i : Nat), i + 1 = ks.length → (∀ j a, 1 ≤ j → j ≤ i → ks[j]? = some a → ¬ t < a.1) → pieceAt ks t = i
  | [], _, _, h, _ => by simp at h
  | [_], _, i, h, _ => by
    have : i = 0 := by simpa using h
    subst this
    rfl
  | k :: k' :: r, t, 0, h, _ => by simp at h
  | k :: k' :: r, t, i + 1, hl, h => by
    have h0 : ¬ t < k'.1 := h 1 k' (by omega) (by omega) rfl
    have := piece_end (ks := k' :: r) (t := t) i (by simpa using hl) (fun j a h1 h3 e => h (j + 1) a (by omega) (by omega) e)
    simp [pieceAt, h0, this]
theorem posAt_first : ∀ {ks : List Kn}, Asc ks → posAt ks (firstT ks) = firstX ks
  | [], _ => rfl
  | [_], _ => rfl
  | k :: k' :: r, h => by
    have := h.head
    unfold posAt firstT firstX
    rw [if_pos this, Rat.sub_self, Rat.mul_zero, Rat.add_zero]
theorem BQ0 {n : Nat} (h : 0 < n) : BQ n 0 := ⟨B.zero, B.one h⟩
theorem posAt_B {n m : Nat} : ∀ {ks : List Kn} {t : Rat}, Asc ks → BKs n ks → BQ m t → BQ (n + (n + n + 1 + (n + n + 1) + (m + n + 1)) + 1) (posAt ks t)
  | [], _, _, _, _ => BQ0 (by omega)
  | [k], _, _, h, _ => (h k (by simp)).2.mono (by omega)
  | k :: k' :: r, t, hA, h, ht => by
    have h1 := h k (by simp)
    have h2 := h k' (by simp)
    unfold posAt
    split
    · have := hA.head
      exact (h1.2.add (((h2.2.sub h1.2).div (h2.1.sub h1.1) (by intro z; grind)).mul (ht.sub h1.1)))
    · exact posAt_B hA.tail (fun x hx => h x (List.mem_cons_of_mem _ hx)) ht
theorem paceAt_B {n : Nat} : ∀ {ks : List Kn} {t : Rat}, Asc ks → BKs n ks → BQ (n + n + 1 + (n + n + 1)) (paceAt ks t)
  | [], _, _, _ => BQ0 (by omega)
  | [k], _, _, h => BQ0 (by omega)
  | k :: k' :: r, t, hA, h => by
    have h1 := h k (by simp)
    have h2 := h k' (by simp)
    unfold paceAt
    split
    · have := hA.head
      exact ((h2.2.sub h1.2).div (h2.1.sub h1.1) (by intro z; grind))
    · exact paceAt_B hA.tail (fun x hx => h x (List.mem_cons_of_mem _ hx))
/-! ### turns -/
def tt (ks js : List Kn) : List Rat := ((turns ks) ++ (turns js)).map (·.1)
def laterB (ks js : List Kn) : Rat := if firstT ks < firstT js then firstT js else firstT ks
def nextF (t : Rat) (acc : Option Rat) (x : Rat) : Option Rat := if t < x ∧ (∀ a, acc = some a → x < a) then some x else acc
def lastF (t acc x : Rat) : Rat := if x < t ∧ acc < x then x else acc
def nextT (ks js : List Kn) (t : Rat) : Option Rat := (tt ks js).foldl (nextF t) none
def lastT (ks js : List Kn) (t : Rat) : Rat := (tt ks js).foldl (lastF t) (laterB ks js)
theorem last_fold (t : Rat) : ∀ (xs : List Rat) (f : Rat), (xs.foldl (lastF t) f = f ∨ (xs.foldl (lastF t) f ∈ xs ∧ xs.foldl (lastF t) f < t ∧ f < xs.foldl (lastF t) f)) ∧ f ≤ xs.foldl (lastF t) f ∧ ∀ x ∈ xs, x < t → x ≤ xs.foldl (lastF t) f
  | [], f => ⟨.inl rfl, Rat.le_refl, fun x h => by simp at h⟩
  | x :: xs, f => by
    obtain ⟨h1, h2, h3⟩ := last_fold t xs (lastF t f x)
    have e : (x :: xs).foldl (lastF t) f = xs.foldl (lastF t) (lastF t f x) := rfl
    rw [e]
    have hf : (lastF t f x = f ∧ ¬ (x < t ∧ f < x)) ∨ (lastF t f x = x ∧ x < t ∧ f < x) := by
      unfold lastF
      by_cases h : x < t ∧ f < x
      · exact .inr ⟨if_pos h, h⟩
      · exact .inl ⟨if_neg h, h⟩
    rcases hf with ⟨hf, hn⟩ | ⟨hf, hx, hx2⟩
    · rw [hf] at h1 h2 h3 ⊢
      refine ⟨?_, h2, fun y hy hyt => ?_⟩
      · rcases h1 with h1 | ⟨a, b, c⟩
        · exact .inl h1
        · exact .inr ⟨List.mem_cons_of_mem _ a, b, c⟩
      · rcases List.mem_cons.mp hy with rfl | hy
        · have : ¬ f < y := fun z => hn ⟨hyt, z⟩
          grind
        · exact h3 y hy hyt
    · rw [hf] at h1 h2 h3 ⊢
      refine ⟨.inr ⟨?_, ?_, by grind⟩, by grind, fun y hy hyt => ?_⟩
      · rcases h1 with h1 | ⟨a, b, c⟩
        · rw [h1]; exact List.mem_cons_self
        · exact List.mem_cons_of_mem _ a
      · rcases h1 with h1 | ⟨a, b, c⟩
        · rw [h1]; exact hx
        · exact b
      · rcases List.mem_cons.mp hy with rfl | hy
        · exact h2
        · exact h3 y hy hyt
theorem last_uniq {t f : Rat} {xs ys : List Rat} (h : ∀ x, x ∈ xs ↔ x ∈ ys) : xs.foldl (lastF t) f = ys.foldl (lastF t) f := by
  obtain ⟨a1, a2, a3⟩ := last_fold t xs f
  obtain ⟨b1, b2, b3⟩ := last_fold t ys f
  have l1 : xs.foldl (lastF t) f ≤ ys.foldl (lastF t) f := by
    rcases a1 with a1 | ⟨a, b, c⟩
    · rw [a1]; exact b2
    · exact b3 _ ((h _).mp a) b
  have l2 : ys.foldl (lastF t) f ≤ xs.foldl (lastF t) f := by
    rcases b1 with b1 | ⟨a, b, c⟩
    · rw [b1]; exact a2
    · exact a3 _ ((h _).mpr a) b
  grind
theorem laterB_symm (ks js : List Kn) : laterB ks js = laterB js ks := by
  unfold laterB
  grind
theorem tt_mem (ks js : List Kn) (x : Rat) : x ∈ tt ks js ↔ x ∈ tt js ks := by
  unfold tt
  rw [List.map_append, List.map_append, List.mem_append, List.mem_append]
  exact ⟨Or.symm, Or.symm⟩
theorem lastT_symm (ks js : List Kn) (t : Rat) : lastT ks js t = lastT js ks t := by
  unfold lastT
  rw [laterB_symm ks js]
  exact last_uniq (tt_mem ks js)
theorem lastT_ge (ks js : List Kn) (t : Rat) : laterB ks js ≤ lastT ks js t := (last_fold t (tt ks js) (laterB ks js)).2.1
theorem lastT_lt {ks js : List Kn} {t : Rat} (h : laterB ks js < t) : lastT ks js t < t := by
  rcases (last_fold t (tt ks js) (laterB ks js)).1 with h1 | ⟨_, h1, _⟩
  · show (tt ks js).foldl _ _ < t
    rw [h1]; exact h
  · exact h1
theorem lastT_in (ks js : List Kn) (t : Rat) : lastT ks js t = laterB ks js ∨ lastT ks js t ∈ tt ks js := by
  rcases (last_fold t (tt ks js) (laterB ks js)).1 with h1 | ⟨h1, _⟩
  · exact .inl h1
  · exact .inr h1
/-- how many times of knots lie before -/
def cntB (ks js : List Kn) (t : Rat) : Nat := (tt ks js).countP (fun x => decide (x < t)) + if laterB ks js < t then 1 else 0
theorem countP_lt {xs : List Rat} {a b : Rat} (h : a < b) (hm : a ∈ xs) : xs.countP (fun x => decide (x < a)) < xs.countP (fun x => decide (x < b)) := by
  induction xs with
  | nil => simp at hm
  | cons x xs ih =>
    have hmono : xs.countP (fun x => decide (x < a)) ≤ xs.countP (fun x => decide (x < b)) := List.countP_mono_left fun y _ hy => by
      have hy := of_decide_eq_true hy
      exact decide_eq_true (by grind)
    rw [List.countP_cons, List.countP_cons]
    rcases List.mem_cons.mp hm with rfl | hm
    · rw [if_neg (by simp), if_pos (by simpa using h)]
      omega
    · have := ih hm
      split <;> split
      · omega
      · rename_i h1 h2
        have h1 : x < a := by simpa using h1
        exact absurd (show decide (x < b) = true by simp; grind) h2
      · omega
      · omega
theorem cntB_last {ks js : List Kn} {t : Rat} (h : laterB ks js < t) : cntB ks js (lastT ks js t) < cntB ks js t := by
  have hl := lastT_lt h
  have hmono : (tt ks js).countP (fun x => decide (x < lastT ks js t)) ≤ (tt ks js).countP (fun x => decide (x < t)) := List.countP_mono_left fun y _ hy => by
    have hy := of_decide_eq_true hy
    exact decide_eq_true (by grind)
  unfold cntB
  rw [if_pos h]
  rcases lastT_in ks js t with e | e
  · rw [if_neg (by rw [e]; exact Rat.lt_irrefl)]
    omega
  · have := countP_lt hl e
    split <;> omega
def sgn (q : Rat) : Int := if 0 < q then 1 else if q < 0 then -1 else 0
theorem sgn_neg (q : Rat) : sgn (-q) = - sgn q := by
  unfold sgn
  grind
theorem sgn_zero {q : Rat} : sgn q = 0 ↔ q = 0 := by
  unfold sgn
  grind
def gapQ (ks js : List Kn) (t : Rat) : Rat := posAt ks t - posAt js t
def sideN (ks js : List Kn) (g : Rat) : Nat → Rat → Rat × Int
  | 0, t => (t, 0)
  | n + 1, t => if laterB ks js < t then if sgn (gapQ ks js (lastT ks js t) - g) ≠ 0 then (t, sgn (gapQ ks js (lastT ks js t) - g)) else sideN ks js g n (lastT ks js t) else (t, 0)
def sideB (ks js : List Kn) (t : Rat) : Rat × Int := sideN ks js (gapQ ks js t) (cntB ks js t) t
theorem sideN_fuel (ks js : List Kn) (g : Rat) : ∀ (n m : Nat) (t : Rat), cntB ks js t ≤ n → cntB ks js t ≤ m → sideN ks js g n t = sideN ks js g m t
  | 0, 0, _, _, _ => rfl
  | 0, m + 1, t, h, _ => by
    have : ¬ laterB ks js < t := fun z => by have := cntB_last z; omega
    unfold sideN
    rw [if_neg this]
  | n + 1, 0, t, _, h => by
    have : ¬ laterB ks js < t := fun z => by have := cntB_last z; omega
    unfold sideN
    rw [if_neg this]
  | n + 1, m + 1, t, h, h' => by
    unfold sideN
    split
    · rename_i z
      have := cntB_last z
      rw [sideN_fuel ks js g n m (lastT ks js t) (by omega) (by omega)]
    · rfl
theorem sideN_step {ks js : List Kn} {g t : Rat} {n : Nat} (h : laterB ks js < t) (hn : cntB ks js t ≤ n) : sideN ks js g n t = if sgn (gapQ ks js (lastT ks js t) - g) ≠ 0 then (t, sgn (gapQ ks js (lastT ks js t) - g)) else sideN ks js g n (lastT ks js t) := by
  have h1 := cntB_last h
  cases n with
  | zero => omega
  | succ n =>
    rw [sideN_fuel ks js g (n + 1) n (lastT ks js t) (by omega) (by omega)]
    conv => lhs; unfold sideN
    rw [if_pos h]
theorem gapQ_symm (ks js : List Kn) (t : Rat) : gapQ js ks t = - gapQ ks js t := by
  unfold gapQ
  grind
theorem sideN_symm (ks js : List Kn) (g : Rat) : ∀ (n : Nat) (t : Rat), sideN js ks (-g) n t = ((sideN ks js g n t).1, - (sideN ks js g n t).2)
  | 0, t => by simp [sideN]
  | n + 1, t => by
    unfold sideN
    rw [laterB_symm js ks, lastT_symm js ks, gapQ_symm ks js, show -gapQ ks js (lastT ks js t) - -g = -(gapQ ks js (lastT ks js t) - g) by grind, sgn_neg]
    split
    · by_cases h : sgn (gapQ ks js (lastT ks js t) - g) = 0
      · rw [if_neg (by simp [h]), if_neg (by simp [h])]
        exact sideN_symm ks js g n _
      · rw [if_pos (by omega), if_pos h]
    · simp
theorem cntB_symm (ks js : List Kn) (t : Rat) : cntB ks js t = cntB js ks t := by
  unfold cntB tt
  rw [laterB_symm ks js, List.map_append, List.map_append, List.countP_append, List.countP_append]
  omega
theorem sideB_symm (ks js : List Kn) (t : Rat) : (sideB js ks t).2 = - (sideB ks js t).2 := by
  unfold sideB
  rw [gapQ_symm ks js, sideN_symm, cntB_symm js ks]
theorem sideN_zero {ks js : List Kn} {g : Rat} : ∀ (n : Nat) (t : Rat), cntB ks js t ≤ n → laterB ks js ≤ t → gapQ ks js t = g → (sideN ks js g n t).2 = 0 → gapQ ks js (laterB ks js) = g
  | 0, t, hn, hb, hg, h => by
    have : ¬ laterB ks js < t := fun z => by have := cntB_last z; omega
    have e : t = laterB ks js := by grind
    rw [← e]; exact hg
  | n + 1, t, hn, hb, hg, h => by
    unfold sideN at h
    split at h
    · rename_i z
      have h1 := cntB_last z
      split at h
      · rename_i h2
        exact absurd h h2
      · rename_i h2
        have h2 : sgn (gapQ ks js (lastT ks js t) - g) = 0 := by simpa using h2
        have h3 := sgn_zero.mp h2
        exact sideN_zero n _ (by omega) (lastT_ge ks js t) (by grind) h
    · have e : t = laterB ks js := by grind
      rw [← e]; exact hg
/-! ### laps -/
def isCon : Option Int → Rat → Bool
  | none, g => decide (g = 0)
  | some l, g => decide ((g / (l : Rat)).den = 1)
def lapsIn : Option Int → Rat → Int
  | none, g => if 0 ≤ g then 0 else -1
  | some l, g => (g / (l : Rat)).floor
def sideA (ks js : List Kn) (t : Rat) : Int := (sideB ks js t).2
def lapsB (L : Option Int) (ks js : List Kn) (t : Rat) : Int :=
  if isCon L (gapQ ks js t) then lapsIn L (gapQ ks js t) - (if sideA ks js t < 0 then 1 else 0) else lapsIn L (gapQ ks js t)
/-- two loads that begin at one time on different spots -/
structure Two (L : Option Int) (b : Rat) (ks js : List Kn) : Prop where
  ne1 : ks ≠ []
  ne2 : js ≠ []
  b1 : firstT ks = b
  b2 : firstT js = b
  apart : isCon L (gapQ ks js b) = false
theorem neg_div' (a b : Rat) : -a / b = -(a / b) := by rw [Rat.div_def, Rat.div_def, Rat.neg_mul]
theorem isCon_neg (L : Option Int) (g : Rat) : isCon L (-g) = isCon L g := by
  cases L with
  | none => unfold isCon; rw [decide_eq_decide]; grind
  | some l =>
    show decide ((-g / (l : Rat)).den = 1) = decide ((g / (l : Rat)).den = 1)
    rw [neg_div', Rat.neg_den]
theorem Two.symm {L : Option Int} {b : Rat} {ks js : List Kn} (h : Two L b ks js) : Two L b js ks := ⟨h.ne2, h.ne1, h.b2, h.b1, by rw [gapQ_symm ks js, isCon_neg]; exact h.apart⟩
theorem Two.later {L : Option Int} {b : Rat} {ks js : List Kn} (h : Two L b ks js) : laterB ks js = b := by
  unfold laterB
  rw [h.b1, h.b2, if_neg Rat.lt_irrefl]
theorem Two.side {L : Option Int} {b t : Rat} {ks js : List Kn} (h : Two L b ks js) (ht : b ≤ t) (hc : isCon L (gapQ ks js t) = true) : sideA ks js t ≠ 0 := fun z => by
  have := sideN_zero (cntB ks js t) t (Nat.le_refl _) (by rw [h.later]; exact ht) rfl z
  rw [h.later] at this
  have h2 := h.apart
  rw [this, hc] at h2
  cases h2
theorem floor_neg {q : Rat} : q.floor + (-q).floor = if q.den = 1 then 0 else -1 := by
  have h1 := Rat.floor_le q
  have h2 := Rat.lt_floor_add_one q
  have h3 := Rat.floor_le (-q)
  have h4 := Rat.lt_floor_add_one (-q)
  rw [Rat.intCast_add] at h2 h4
  have e1 : ((1 : Int) : Rat) = 1 := rfl
  rw [e1] at h2 h4
  have u : ((q.floor + (-q).floor : Int) : Rat) ≤ ((0 : Int) : Rat) := by
    rw [Rat.intCast_add]
    show _ ≤ (0 : Rat)
    grind
  have v : ((-2 : Int) : Rat) < ((q.floor + (-q).floor : Int) : Rat) := by
    rw [Rat.intCast_add]
    show (-2 : Rat) < _
    grind
  have u' := Rat.intCast_le_intCast.mp u
  have v' := Rat.intCast_lt_intCast.mp v
  split
  · rename_i hd
    have e := den1.mp hd
    have hd2 : (-q).den = 1 := by rw [Rat.neg_den]; exact hd
    have e2 := den1.mp hd2
    have e3 : ((q.floor + (-q).floor : Int) : Rat) = ((0 : Int) : Rat) := by
      rw [Rat.intCast_add, e, e2]
      show _ = (0 : Rat)
      grind
    exact Rat.intCast_inj.mp e3
  · rename_i hd
    have hne : q.floor + (-q).floor ≠ 0 := fun z => hd (den1.mpr (by
      have e3 : ((q.floor + (-q).floor : Int) : Rat) = ((0 : Int) : Rat) := by rw [z]
      rw [Rat.intCast_add] at e3
      have e4 : ((0 : Int) : Rat) = 0 := rfl
      rw [e4] at e3
      grind))
    omega
theorem lapsIn_neg (L : Option Int) (g : Rat) : lapsIn L g + lapsIn L (-g) = if isCon L g then 0 else -1 := by
  cases L with
  | none =>
    unfold lapsIn isCon
    simp only [decide_eq_true_eq]
    grind
  | some l =>
    show (g / (l : Rat)).floor + (-g / (l : Rat)).floor = if decide ((g / (l : Rat)).den = 1) = true then 0 else -1
    rw [neg_div', floor_neg]
    simp
theorem lapsB_symm {L : Option Int} {b t : Rat} {ks js : List Kn} (h : Two L b ks js) (ht : b ≤ t) : lapsB L ks js t + lapsB L js ks t = -1 := by
  unfold lapsB
  have e := lapsIn_neg L (gapQ ks js t)
  have s := sideB_symm ks js t
  rw [gapQ_symm ks js, isCon_neg]
  cases hc : isCon L (gapQ ks js t) with
  | false =>
    rw [hc] at e
    simpa using e
  | true =>
    have h0 := h.side ht hc
    rw [hc] at e
    unfold sideA at *
    simp only [if_true] at e ⊢
    split <;> split <;> omega
theorem lapsB_begin {L : Option Int} {b : Rat} {ks js : List Kn} (h : Two L b ks js) : lapsB L ks js b = lapsIn L (gapQ ks js b) := by
  unfold lapsB
  rw [h.apart]
  rfl
end DL
namespace DL
theorem turns_sub {ks : List Kn} {k : Kn} (h : k ∈ turns ks) : k ∈ ks := by
  unfold turns at h
  rcases List.mem_append.mp h with h | h
  · exact List.mem_of_mem_take h
  · obtain ⟨i, _, hi⟩ := List.mem_filterMap.mp h
    unfold turnsAt at hi
    split at hi
    · cases hi
    · exact List.mem_of_getElem? hi
theorem tt_B {n : Nat} {ks js : List Kn} (h1 : BKs n ks) (h2 : BKs n js) {x : Rat} (h : x ∈ tt ks js) : BQ n x := by
  obtain ⟨k, hk, rfl⟩ := List.mem_map.mp h
  rcases List.mem_append.mp hk with hk | hk
  · exact (h1 k (turns_sub hk)).1
  · exact (h2 k (turns_sub hk)).1
theorem laterB_B {n : Nat} {ks js : List Kn} (h1 : BQ n (firstT ks)) (h2 : BQ n (firstT js)) : BQ n (laterB ks js) := by
  unfold laterB
  split
  · exact h2
  · exact h1
theorem lastT_B {n : Nat} {ks js : List Kn} {t : Rat} (h1 : BKs n ks) (h2 : BKs n js) (b1 : BQ n (firstT ks)) (b2 : BQ n (firstT js)) : BQ n (lastT ks js t) := by
  rcases lastT_in ks js t with e | e
  · rw [e]; exact laterB_B b1 b2
  · exact tt_B h1 h2 e
theorem next_fold (t : Rat) : ∀ (xs : List Rat) (a : Option Rat), (∀ y, a = some y → t < y) → (∀ y, xs.foldl (nextF t) a = some y → t < y ∧ (a = some y ∨ y ∈ xs)) ∧ (∀ x ∈ xs, t < x → ∃ y, xs.foldl (nextF t) a = some y ∧ y ≤ x) ∧ ∀ x, a = some x → ∃ y, xs.foldl (nextF t) a = some y ∧ y ≤ x
  | [], a, h => ⟨fun y e => ⟨h y e, .inl e⟩, fun x h => by simp at h, fun x e => ⟨x, e, Rat.le_refl⟩⟩
  | x :: xs, a, h => by
    have e : (x :: xs).foldl (nextF t) a = xs.foldl (nextF t) (nextF t a x) := rfl
    rw [e]
    by_cases hc : t < x ∧ (∀ y, a = some y → x < y)
    · have e2 : nextF t a x = some x := if_pos hc
      rw [e2]
      obtain ⟨h1, h2, h3⟩ := next_fold t xs (some x) (fun y z => by cases z; exact hc.1)
      refine ⟨fun y hy => ?_, fun y hy hyt => ?_, fun y hy => ?_⟩
      · obtain ⟨z1, z2⟩ := h1 y hy
        refine ⟨z1, .inr ?_⟩
        rcases z2 with z2 | z2
        · cases z2; exact List.mem_cons_self
        · exact List.mem_cons_of_mem _ z2
      · rcases List.mem_cons.mp hy with rfl | hy
        · exact h3 _ rfl
        · exact h2 y hy hyt
      · obtain ⟨z, z1, z2⟩ := h3 x rfl
        have := hc.2 y hy
        exact ⟨z, z1, by grind⟩
    · have e2 : nextF t a x = a := if_neg hc
      rw [e2]
      obtain ⟨h1, h2, h3⟩ := next_fold t xs a h
      refine ⟨fun y hy => ?_, fun y hy hyt => ?_, h3⟩
      · obtain ⟨z1, z2⟩ := h1 y hy
        exact ⟨z1, z2.imp id (List.mem_cons_of_mem _)⟩
      · rcases List.mem_cons.mp hy with rfl | hy
        · cases ha : a with
          | none => exact absurd ⟨hyt, fun z q => by rw [ha] at q; cases q⟩ hc
          | some z =>
            obtain ⟨u, u1, u2⟩ := h3 z ha
            have : ¬ y < z := fun q => hc ⟨hyt, fun v q2 => by rw [ha] at q2; cases q2; exact q⟩
            rw [ha] at u1
            exact ⟨u, u1, by grind⟩
        · exact h2 y hy hyt
theorem nextT_some {ks js : List Kn} {t y : Rat} (h : nextT ks js t = some y) : t < y ∧ y ∈ tt ks js := by
  obtain ⟨h1, h2⟩ := (next_fold t (tt ks js) none (fun y z => by cases z)).1 y h
  exact ⟨h1, h2.resolve_left (by simp)⟩
theorem nextT_none {ks js : List Kn} {t : Rat} (h : nextT ks js t = none) : ∀ x ∈ tt ks js, ¬ t < x := fun x hx hlt => by
  obtain ⟨y, h1, _⟩ := (next_fold t (tt ks js) none (fun y z => by cases z)).2.1 x hx hlt
  have h' : (tt ks js).foldl (nextF t) none = none := h
  rw [h'] at h1
  cases h1
/-- how many times of knots lie behind -/
def cntA (ks js : List Kn) (t : Rat) : Nat := (tt ks js).countP (fun x => decide (t < x))
theorem cntA_le {ks js : List Kn} {s t : Rat} (h : s ≤ t) : cntA ks js t ≤ cntA ks js s := List.countP_mono_left fun y _ hy => by
  have hy := of_decide_eq_true hy
  exact decide_eq_true (by grind)
theorem countA_lt {xs : List Rat} {a b : Rat} (h : a < b) (hm : b ∈ xs) : xs.countP (fun x => decide (b < x)) < xs.countP (fun x => decide (a < x)) := by
  induction xs with
  | nil => simp at hm
  | cons x xs ih =>
    have hmono : xs.countP (fun x => decide (b < x)) ≤ xs.countP (fun x => decide (a < x)) := List.countP_mono_left fun y _ hy => by
      have hy := of_decide_eq_true hy
      exact decide_eq_true (by grind)
    rw [List.countP_cons, List.countP_cons]
    rcases List.mem_cons.mp hm with rfl | hm
    · rw [if_neg (by simp), if_pos (by simpa using h)]
      omega
    · have := ih hm
      split <;> split
      · omega
      · rename_i h1 h2
        have h1 : b < x := by simpa using h1
        exact absurd (show decide (a < x) = true by simp; grind) h2
      · omega
      · omega
theorem cntA_next {ks js : List Kn} {t y : Rat} (h : t < y) (hm : y ∈ tt ks js) : cntA ks js y < cntA ks js t := countA_lt h hm
theorem floor_B {n : Nat} {q : Rat} (h : BQ n q) : B n q.floor := by
  rw [Rat.floor_def]
  refine h.num.le ?_
  exact Int.natAbs_ediv_le_natAbs _ _
end DL

namespace DL
open PySem L2
/-! ### spots and laps of a place -/
def floorQ : Option Int → Rat → Int
  | none, _ => 0
  | some l, x => (x / (l : Rat)).floor
def spotQ : Option Int → Rat → Rat
  | none, x => x
  | some l, x => x - (l : Rat) * ((x / (l : Rat)).floor : Int)
theorem cast_pos {l : Int} (h : 1 ≤ l) : (0 : Rat) < (l : Rat) := by
  have : ((0 : Int) : Rat) < (l : Rat) := Rat.intCast_lt_intCast.mpr (by omega)
  exact this
theorem floor_eq {q : Rat} {z : Int} (h1 : (z : Rat) ≤ q) (h2 : q < (z : Rat) + 1) : q.floor = z := by
  have a : z ≤ q.floor := Rat.le_floor_iff.mpr h1
  have b : q.floor < z + 1 := Rat.floor_lt_iff.mpr (by rw [Rat.intCast_add]; exact h2)
  omega
theorem num_div (x : Rat) : x = (x.num : Rat) / ((x.den : Int) : Rat) := by
  rw [← Rat.divInt_eq_div, Rat.num_divInt_den]
theorem div_mul_self {a b : Rat} (h : b ≠ 0) : a / b * b = a := Rat.div_mul_cancel h
theorem le_div {a b c : Rat} (hc : 0 < c) : a ≤ b / c ↔ a * c ≤ b := by
  have e : b / c * c = b := div_mul_self (by grind)
  constructor
  · intro h
    have := Rat.mul_le_mul_of_nonneg_right h (Rat.le_of_lt hc)
    rw [e] at this
    exact this
  · intro h
    refine Rat.not_lt.mp fun z => ?_
    have := Rat.mul_lt_mul_of_pos_right z hc
    rw [e] at this
    grind
theorem div_lt {a b c : Rat} (hc : 0 < c) : a / c < b ↔ a < b * c := by
  have e : a / c * c = a := div_mul_self (by grind)
  constructor
  · intro h
    have := Rat.mul_lt_mul_of_pos_right h hc
    rw [e] at this
    exact this
  · intro h
    refine Rat.not_le.mp fun z => ?_
    have := Rat.mul_le_mul_of_nonneg_right z (Rat.le_of_lt hc)
    rw [e] at this
    grind
/-- the floor of a quotient of integers -/
theorem floor_fdiv {x : Rat} {l : Int} (h : 1 ≤ l) : (x / (l : Rat)).floor = x.num.fdiv ((x.den : Int) * l) := by
  have hl := cast_pos h
  have hd : (0 : Rat) < ((x.den : Int) : Rat) := by
    have : ((0 : Int) : Rat) < ((x.den : Int) : Rat) := Rat.intCast_lt_intCast.mpr (den_pos x)
    exact this
  have hm : 0 < (x.den : Int) * l := Int.mul_pos (den_pos x) (by omega)
  have ex : x * ((x.den : Int) : Rat) = (x.num : Rat) := by
    conv => lhs; lhs; rw [num_div x]
    exact div_mul_self (by grind)
  have q1 := Int.mul_fdiv_self_le (x := x.num) (k := (x.den : Int) * l) (by omega)
  have q2 := Int.lt_mul_fdiv_self_add (x := x.num) hm
  generalize hz : x.num.fdiv ((x.den : Int) * l) = z at q1 q2
  have r1 : (((x.den : Int) * l * z : Int) : Rat) ≤ (x.num : Rat) := Rat.intCast_le_intCast.mpr q1
  have r2 : (x.num : Rat) < (((x.den : Int) * l * z + (x.den : Int) * l : Int) : Rat) := Rat.intCast_lt_intCast.mpr q2
  rw [Rat.intCast_add, Rat.intCast_mul, Rat.intCast_mul, ← ex] at r2
  rw [Rat.intCast_mul, Rat.intCast_mul, ← ex] at r1
  refine floor_eq ((le_div hl).mpr ?_) ((div_lt hl).mpr ?_)
  · refine Rat.not_lt.mp fun w => ?_
    have := Rat.mul_lt_mul_of_pos_right w hd
    grind
  · refine Rat.not_le.mp fun w => ?_
    have := Rat.mul_le_mul_of_nonneg_right w (Rat.le_of_lt hd)
    grind
/-- what the program's spot is -/
theorem spot_fmod {x : Rat} {l : Int} (h : 1 ≤ l) : Rat.divInt (x.num.fmod (l * (x.den : Int))) (x.den : Int) = spotQ (some l) x := by
  have hd0 : ((x.den : Int) : Rat) ≠ 0 := by
    intro z
    have : (x.den : Int) = 0 := Rat.intCast_inj.mp z
    exact den_ne x this
  have e : x.num.fmod (l * (x.den : Int)) = x.num - l * (x.den : Int) * (x / (l : Rat)).floor := by
    rw [floor_fdiv h, Int.mul_comm (x.den : Int) l]
    have := Int.fmod_add_mul_fdiv x.num (l * (x.den : Int))
    omega
  rw [e, Rat.divInt_eq_div]
  show _ = x - (l : Rat) * ((x / (l : Rat)).floor : Int)
  rw [Rat.intCast_sub, Rat.intCast_mul, Rat.intCast_mul]
  have ex := num_div x
  have e2 : ∀ a b c : Rat, c ≠ 0 → (a - b * c) / c = a / c - b := fun a b c hc => by
    have h1 : (a - b * c) / c * c = a - b * c := div_mul_self hc
    have h2 : a / c * c = a := div_mul_self hc
    have h3 : ((a - b * c) / c - (a / c - b)) * c = 0 := by grind
    rcases Rat.mul_eq_zero.mp h3 with h4 | h4
    · grind
    · exact absurd h4 hc
  have e3 : (x.num : Rat) - (l : Rat) * ((x.den : Int) : Rat) * ((x / (l : Rat)).floor : Int) = (x.num : Rat) - (l : Rat) * ((x / (l : Rat)).floor : Int) * ((x.den : Int) : Rat) := by grind
  rw [e3, e2 _ _ _ hd0, ← ex]
theorem con_of_spot {L : Option Int} (hL : ∀ l, L = some l → 1 ≤ l) {x y : Rat} (h : spotQ L x = spotQ L y) : isCon L (x - y) = true := by
  cases L with
  | none =>
    have h : x = y := h
    unfold isCon
    rw [h, Rat.sub_self]
    rfl
  | some l =>
    have hl := hL l rfl
    have hp := cast_pos hl
    have h : x - (l : Rat) * ((x / (l : Rat)).floor : Int) = y - (l : Rat) * ((y / (l : Rat)).floor : Int) := h
    show decide (((x - y) / (l : Rat)).den = 1) = true
    refine decide_eq_true ?_
    have e : (x - y) / (l : Rat) = (((x / (l : Rat)).floor - (y / (l : Rat)).floor : Int) : Rat) := by
      rw [Rat.intCast_sub]
      have h0 : (l : Rat) ≠ 0 := by grind
      have h1 : (x - y) / (l : Rat) * (l : Rat) = x - y := div_mul_self h0
      have h3 : ((x - y) / (l : Rat) - (((x / (l : Rat)).floor : Int) - ((y / (l : Rat)).floor : Int) : Rat)) * (l : Rat) = 0 := by grind
      rcases Rat.mul_eq_zero.mp h3 with h4 | h4
      · grind
      · exact absurd h4 h0
    rw [e]
    rfl
theorem spotQ_B {L : Option Int} {n m : Nat} {x : Rat} (hL : ∀ l, L = some l → 1 ≤ l ∧ B m l) (h : BQ n x) (hn : 0 < n) (hm : 0 < m) : BQ (n + m + n + 2) (spotQ L x) := by
  cases L with
  | none => exact h.mono (by omega)
  | some l =>
    obtain ⟨h1, h2⟩ := hL l rfl
    rw [← spot_fmod h1]
    refine BQ.divInt ?_ (h.den.mono (by omega)) (den_ne x)
    have e : x.num.fmod (l * (x.den : Int)) = x.num - l * (x.den : Int) * x.num.fdiv (l * (x.den : Int)) := by
      have := Int.fmod_add_mul_fdiv x.num (l * (x.den : Int))
      omega
    rw [e]
    have hp : B (m + n) (l * (x.den : Int)) := h2.mul h.den
    refine (h.num.sub (hp.mul (h.num.fdiv _))).mono ?_
    omega
theorem floorQ_B {L : Option Int} {n m : Nat} {x : Rat} (hL : ∀ l, L = some l → 1 ≤ l ∧ B m l) (h : BQ n x) (hm : 0 < m) : B (n + m) (floorQ L x) := by
  cases L with
  | none => exact B.zero
  | some l =>
    obtain ⟨h1, h2⟩ := hL l rfl
    refine floor_B (h.div (BQ.int h2 hm) ?_)
    have := cast_pos h1
    grind
theorem lapsIn_B {L : Option Int} {n m : Nat} {x : Rat} (hL : ∀ l, L = some l → 1 ≤ l ∧ B m l) (h : BQ n x) (hm : 0 < m) : B (n + m) (lapsIn L x) := by
  cases L with
  | none =>
    show B _ (if 0 ≤ x then (0 : Int) else -1)
    split
    · exact B.zero
    · exact (B.one (by omega)).neg
  | some l =>
    obtain ⟨h1, h2⟩ := hL l rfl
    refine floor_B (h.div (BQ.int h2 hm) ?_)
    have := cast_pos h1
    grind
/-! ### dicts by names -/
section
variable {α : Type} {e : α → D}
abbrev kN (s : Str) : Key := .inr s
theorem val_names {e : α → D} : ∀ {ls : List (Str × α)}, (ls.map (·.1)).Nodup → ∀ {p : Str × α}, p ∈ ls → valD (ls.map fun p => (kN p.1, e p.2)) (kN p.1) = some (e p.2)
  | [], _, _, h => by simp at h
  | q :: ls, hn, p, h => by
    rw [List.map_cons, List.nodup_cons] at hn
    unfold valD
    rw [List.map_cons, List.find?_cons]
    rcases List.mem_cons.mp h with rfl | h
    · simp
    · have hne : q.1 ≠ p.1 := fun z => hn.1 (by rw [z]; exact List.mem_map.mpr ⟨p, h, rfl⟩)
      have : decide ((kN q.1 : Key) = kN p.1) = false := decide_eq_false fun z => hne (Sum.inr.inj z)
      dsimp only
      rw [this]
      exact val_names hn.2 h
theorem val_fun {e : Str → D} {ns : List Str} {n : Str} (h : n ∈ ns) : valD (ns.map fun s => (kN s, e s)) (kN n) = some (e n) := by
  induction ns with
  | nil => simp at h
  | cons m ns ih =>
    unfold valD
    rw [List.map_cons, List.find?_cons]
    by_cases z : m = n
    · subst z; simp
    · have : decide ((kN m : Key) = kN n) = false := decide_eq_false fun q => z (Sum.inr.inj q)
      dsimp only
      rw [this]
      exact ih ((List.mem_cons.mp h).resolve_left fun q => z q.symm)
theorem put_fun {e : Str → D} {ns : List Str} {n : Str} (h : n ∈ ns) (d : D) : putDK (ns.map fun s => (kN s, e s)) (kN n) d = ns.map fun s => (kN s, if s = n then d else e s) := by
  unfold putDK
  have : ((ns.map fun s => ((kN s, e s) : Key × D)).any fun kv => decide (kv.1 = kN n)) = true := by
    rw [List.any_eq_true]
    exact ⟨_, List.mem_map.mpr ⟨n, h, rfl⟩, by simp⟩
  rw [if_pos this, List.map_map]
  refine List.map_congr_left fun s _ => ?_
  show (if (kN s : Key) = kN n then (kN s, d) else (kN s, e s)) = _
  by_cases z : s = n
  · rw [if_pos (by rw [z]), if_pos z]
  · rw [if_neg (fun q => z (Sum.inr.inj q)), if_neg z]
theorem put_new {es : List (Key × D)} {n : Str} {d : D} (h : ∀ p ∈ es, p.1 ≠ kN n) : putDK es (kN n) d = es ++ [(kN n, d)] := by
  unfold putDK
  rw [if_neg]
  intro z
  obtain ⟨p, hp, hq⟩ := List.any_eq_true.mp z
  exact h p hp (of_decide_eq_true hq)
theorem putT_new {es : List (List Key × D)} {q : List Key} {d : D} (h : ∀ p ∈ es, p.1 ≠ q) : putDT es q d = es ++ [(q, d)] := by
  unfold putDT
  rw [if_neg]
  intro z
  obtain ⟨p, hp, hq⟩ := List.any_eq_true.mp z
  exact h p hp (of_decide_eq_true hq)
def kQ (x : Rat) : List Key := [.inl x.num, .inl (x.den : Int)]
theorem kQ_inj {x y : Rat} (h : kQ x = kQ y) : x = y := by
  unfold kQ at h
  injection h with h1 h2
  injection h2 with h2 _
  injection h1 with h1
  injection h2 with h2
  exact Rat.ext h1 (by omega)
theorem kQ_D (x : Rat) : dQ x = .tup ((kQ x).map keyD) := rfl
end
/-! ### sums over pairs -/
theorem sum_zero {α : Type} (xs : List α) : (xs.map fun _ => (0 : Int)).sum = 0 := by
  induction xs with
  | nil => rfl
  | cons x xs ih => rw [List.map_cons, List.sum_cons, ih]; rfl
theorem sum_add {α : Type} (xs : List α) (f g : α → Int) : (xs.map fun x => f x + g x).sum = (xs.map f).sum + (xs.map g).sum := by
  induction xs with
  | nil => rfl
  | cons x xs ih =>
    simp only [List.map_cons, List.sum_cons, ih]
    omega
theorem sum_neg {α : Type} (xs : List α) (f : α → Int) : (xs.map fun x => - f x).sum = - (xs.map f).sum := by
  induction xs with
  | nil => rfl
  | cons x xs ih =>
    simp only [List.map_cons, List.sum_cons, ih]
    omega
theorem sum_swap {α β : Type} (f : α → β → Int) : ∀ (xs : List α) (ys : List β), (xs.map fun x => (ys.map fun y => f x y).sum).sum = (ys.map fun y => (xs.map fun x => f x y).sum).sum
  | [], ys => by
    simp only [List.map_nil, List.sum_nil]
    exact (sum_zero ys).symm
  | x :: xs, ys => by
    simp only [List.map_cons, List.sum_cons]
    rw [sum_add, sum_swap f xs ys]
theorem sum_anti {α : Type} (f : α → α → Int) (xs : List α) (h : ∀ x ∈ xs, ∀ y ∈ xs, f x y = - f y x) : (xs.map fun x => (xs.map fun y => f x y).sum).sum = 0 := by
  have e1 := sum_swap f xs xs
  have e2 : (xs.map fun y => (xs.map fun x => f x y).sum) = xs.map fun y => - (xs.map fun x => f y x).sum := List.map_congr_left fun y hy => by
    rw [← sum_neg]
    congr 1
    exact List.map_congr_left fun x hx => h x hx y hy
  rw [e2, sum_neg] at e1
  omega
theorem sum_B {α : Type} {n : Nat} (f : α → Int) : ∀ (xs : List α), (∀ x ∈ xs, B n (f x)) → B (n + xs.length) ((xs.map f).sum)
  | [], _ => B.zero
  | x :: xs, h => by
    rw [List.map_cons, List.sum_cons]
    have h1 := h x List.mem_cons_self
    have h2 := sum_B f xs fun y hy => h y (List.mem_cons_of_mem _ hy)
    refine (h1.add h2).mono ?_
    rw [List.length_cons]
    omega
/-! ### sorted by how many are less -/
theorem byRank_perm (rk : Str → Int) (ks : List Str) : (byRank rk ks).Perm ks := List.mergeSort_perm _ _
theorem byRank_sorted (rk : Str → Int) (ks : List Str) : (byRank rk ks).Pairwise fun a b => rk a ≤ rk b := by
  have := List.pairwise_mergeSort (le := fun a b => decide (rk a ≤ rk b)) (fun a b c h1 h2 => by
    have h1 := of_decide_eq_true h1
    have h2 := of_decide_eq_true h2
    exact decide_eq_true (by omega)) (fun a b => by
    rcases Int.le_total (rk a) (rk b) with h | h
    · simp [h]
    · simp [h]) ks
  exact this.imp fun h => of_decide_eq_true h
def cntV (v : Str → Rat) (ks : List Str) (a : Str) : Nat := ks.countP fun b => decide (v b < v a)
theorem cntV_mono {v : Str → Rat} {ks : List Str} {a b : Str} (h : v a ≤ v b) : cntV v ks a ≤ cntV v ks b := List.countP_mono_left fun y _ hy => by
  have hy := of_decide_eq_true hy
  exact decide_eq_true (by grind)
theorem cntV_lt {v : Str → Rat} : ∀ {ks : List Str} {a b : Str}, v a < v b → a ∈ ks → cntV v ks a < cntV v ks b
  | [], _, _, _, hm => by simp at hm
  | x :: ks, a, b, h, hm => by
    have hmono := cntV_mono (v := v) (ks := ks) (Rat.le_of_lt h)
    unfold cntV at hmono ⊢
    rw [List.countP_cons, List.countP_cons]
    rcases List.mem_cons.mp hm with rfl | hm
    · rw [if_neg (by simp), if_pos (by simpa using h)]
      omega
    · have := cntV_lt h hm
      unfold cntV at this
      split <;> split
      · omega
      · rename_i h1 h2
        have h1 : v x < v a := by simpa using h1
        exact absurd (show decide (v x < v b) = true by simp; grind) h2
      · omega
      · omega
theorem byRank_get {v : Str → Rat} {ks : List Str} (nd : ks.Nodup) (inj : ∀ a ∈ ks, ∀ b ∈ ks, v a = v b → a = b) {rk : Str → Int} (hrk : ∀ a ∈ ks, rk a = (cntV v ks a : Int)) {n : Str} (hn : n ∈ ks) :
    (byRank rk ks)[cntV v ks n]? = some n := by
  have hp := byRank_perm rk ks
  have hs := byRank_sorted rk ks
  have hm : n ∈ byRank rk ks := hp.mem_iff.mpr hn
  obtain ⟨j, hj⟩ := List.getElem?_of_mem hm
  have nd2 : (byRank rk ks).Nodup := hp.nodup_iff.mpr nd
  have hlt : ∀ a ∈ ks, ∀ b ∈ ks, rk a < rk b ↔ v a < v b := fun a ha b hb => by
    rw [hrk a ha, hrk b hb]
    constructor
    · intro z
      refine Rat.not_le.mp fun w => ?_
      have := cntV_mono (ks := ks) w
      omega
    · intro z
      have := cntV_lt z ha
      omega
  have hc : cntV v ks n = j := by
    unfold cntV
    rw [← hp.countP_eq]
    have hjl : j < (byRank rk ks).length := (List.getElem?_eq_some_iff.mp hj).1
    rw [← List.take_append_drop j (byRank rk ks), List.countP_append]
    have e1 : ((byRank rk ks).take j).countP (fun b => decide (v b < v n)) = ((byRank rk ks).take j).length := by
      rw [List.countP_eq_length]
      intro b hb
      obtain ⟨i, hi⟩ := List.getElem?_of_mem hb
      have hij : i < j := by
        have := (List.getElem?_eq_some_iff.mp hi).1
        rw [List.length_take] at this
        omega
      rw [List.getElem?_take_of_lt hij] at hi
      have hbk : b ∈ ks := hp.mem_iff.mp (List.mem_of_getElem? hi)
      have hle : rk b ≤ rk n := by
        have := List.pairwise_iff_getElem.mp hs i j (by omega) hjl hij
        rwa [(List.getElem?_eq_some_iff.mp hi).2, (List.getElem?_eq_some_iff.mp hj).2] at this
      have hne : b ≠ n := fun z => by
        subst z
        have := List.pairwise_iff_getElem.mp nd2 i j (by omega) hjl hij
        exact this ((List.getElem?_eq_some_iff.mp hi).2.trans (List.getElem?_eq_some_iff.mp hj).2.symm)
      have hv : ¬ v n < v b := fun z => by have := (hlt n hn b hbk).mpr z; omega
      have hv2 : v b ≠ v n := fun z => hne (inj b hbk n hn z)
      exact decide_eq_true (by grind)
    have e2 : ((byRank rk ks).drop j).countP (fun b => decide (v b < v n)) = 0 := by
      rw [List.countP_eq_zero]
      intro b hb
      obtain ⟨i, hi⟩ := List.getElem?_of_mem hb
      rw [List.getElem?_drop] at hi
      have hbk : b ∈ ks := hp.mem_iff.mp (List.mem_of_getElem? hi)
      have hle : rk n ≤ rk b := by
        by_cases z : i = 0
        · subst z
          rw [Nat.add_zero, hj] at hi
          cases hi
          exact Int.le_refl _
        · have hil := (List.getElem?_eq_some_iff.mp hi).1
          have := List.pairwise_iff_getElem.mp hs j (j + i) hjl hil (by omega)
          rwa [(List.getElem?_eq_some_iff.mp hi).2, (List.getElem?_eq_some_iff.mp hj).2] at this
      have hv : ¬ v b < v n := fun z => by have := (hlt b hbk n hn).mpr z; omega
      simpa using hv
    rw [e1, e2, List.length_take]
    omega
  rw [hc]
  exact hj
end DL
namespace DL
open PySem L2
theorem take_get' {α : Type} {xs : List α} {i : Nat} {x : α} (h : xs[i]? = some x) : xs.take (i + 1) = xs.take i ++ [x] := by
  rw [List.take_add_one, h]
  rfl
theorem nd_take' {α : Type} {ns : List α} (nd : ns.Nodup) {i : Nat} {n m : α} (h : ns[i]? = some n) (hm : m ∈ ns.take i) : m ≠ n := fun z => by
  subst z
  obtain ⟨j, hj⟩ := List.getElem?_of_mem hm
  have hji : j < i := by
    have := (List.getElem?_eq_some_iff.mp hj).1
    rw [List.length_take] at this
    omega
  rw [List.getElem?_take_of_lt hji] at hj
  have := List.pairwise_iff_getElem.mp nd j i (List.getElem?_eq_some_iff.mp hj).1 (List.getElem?_eq_some_iff.mp h).1 hji
  exact this ((List.getElem?_eq_some_iff.mp hj).2.trans (List.getElem?_eq_some_iff.mp h).2.symm)
/-- {n: f n for n in names}, each part as it is -/
theorem XE.dcN {C : Cfg} {ds : DS} {M : Mem} {k : D → Mem → Prop} {wi : TI} {g : TG} {tk tv : TE} {vs : List Nat} {ns : List Str} (f : Str → D) (h : XI C wi ds M fun xs M1 => xs = ns.map D.str ∧ ns.Nodup ∧ ns.length ≤ 1000000 ∧
      (∀ n ∈ ns, XG C.nox g (.str n) (dwipe ds vs) M1 vs fun ds2 M2 => XE C.nox tk ds2 M2 fun y M3 => XE C.nox tv ds2 M3 fun z M4 => y = .str n ∧ z = f n ∧ M4 = M1) ∧ ∀ p, p ∉ dom M1 → k (.raw p) ((p, .dct (ns.map fun n => (kN n, f n))) :: M1)) :
    XE C (tDc wi g tYes tk tv vs) ds M k := XE.dc fun F H σ s e c R gR => h F H σ s e c R fun xs M1 J F1 H1 n1 it h1 => by
  obtain ⟨rfl, nd, hl, hs, hk⟩ := h1
  refine gR _ M1 J F1 H1 n1 it ⟨fun i acc M' => acc = (ns.take i).map (fun n => (kN n, f n)) ∧ M' = M1, ⟨rfl, rfl⟩, fun i x acc M' hx hI => ?_, fun acc M' hI => ?_⟩
  · obtain ⟨rfl, rfl⟩ := hI
    obtain ⟨n, hn, rfl⟩ := map_get' hx
    have hm := List.mem_of_getElem? hn
    have hi : i < ns.length := (List.getElem?_eq_some_iff.mp hn).1
    refine fun F H σ v s e c r Q g' => hs n hm F H σ v s e c r Q fun d M2 σ2 F2 H2 n2 e2 l2 w2 h2 => g' d M2 σ2 F2 H2 n2 e2 l2 w2 (XT.yes ⟨fun _ => ?_, fun z => by cases z⟩)
    refine fun Fa Ha σa sa ea ca Qa ga => h2 Fa Ha σa sa ea ca Qa fun y M3 vy F3 H3 n3 r3 h3 => ga y M3 vy F3 H3 n3 r3 ?_
    refine fun Fb Hb σb sb eb cb Qb gb => h3 Fb Hb σb sb eb cb Qb fun z M4 vz F4 H4 n4 r4 h4 => gb z M4 vz F4 H4 n4 r4 ?_
    obtain ⟨rfl, rfl, rfl⟩ := h4
    refine ⟨kN n, rfl, ?_, ?_, rfl⟩
    · rw [List.length_map, List.length_take]
      omega
    · rw [put_new (fun p hp => by
        obtain ⟨m, hm2, rfl⟩ := List.mem_map.mp hp
        exact fun z => nd_take' nd hn hm2 (Sum.inr.inj z)), take_get' hn, List.map_append]
      rfl
  · obtain ⟨rfl, rfl⟩ := hI
    rw [List.length_map, List.take_length]
    exact hk
end DL

namespace DL
open PySem L2
theorem XS.par3 {C : Cfg} {ds : DS} {M : Mem} {P : Post} {i j l : Nat} {t : TA} (h : XA C t ds M fun xs M1 => ∃ x y z, xs = [x, y, z] ∧ P.nx (((ds.set i (some x)).set j (some y)).set l (some z)) M1) : XS C (tPar3 i j l t) ds M P := fun F H σ s e c D f =>
  h F H σ s e c _ fun xs M1 vs F1 H1 n1 r1 h1 => by
    obtain ⟨x, y, z, rfl, q⟩ := h1
    cases r1 with
    | @cons _ u _ _ a r =>
      cases r with
      | @cons _ v _ _ b r =>
        cases r with
        | @cons _ w _ _ c' r =>
          cases r
          exact ⟨u, v, w, rfl, f.nx _ _ _ _ _ n1 ((((e.mono n1.ex).set i a).set j b).set l c') q⟩
end DL
namespace DL
open PySem L2
section
variable {C : Cfg} {ds : DS} {M : Mem} {k : D → Mem → Prop} {n a m : Nat} {p : PSp} {E : XK} {t tk : TA}
theorem XE.callNP (mo : MonoP p) (hE : ∀ σ, C.E σ = E) (h : XA C t ds M fun xs M1 => XA C tk ds M1 fun ys M2 => xs.length = a ∧ ys.length = m ∧ (xs ++ ys).length = n ∧ p (xs ++ ys) (fun r => k r M2) (fun cls fs => C.x ds cls fs M2)) :
    XE C (tCallN a m (spD C.K n (pur p)) (fun us ws => us ++ ws) E t tk) ds M k :=
  XE.callN mo.pur hE (gD := fun a b => a ++ b) (fun F ds vs es us _ _ r1 r2 => r1.append r2) fun F H σ s e c Q g => h F H σ s e c Q fun xs M1 vs F1 H1 n1 r1 h1 => g xs M1 vs F1 H1 n1 r1 fun F H σ s e c Q g => h1 F H σ s e c Q fun ys M2 us F2 H2 n2 r2 h2 => g ys M2 us F2 H2 n2 r2 ⟨h2.1, h2.2.1, M2, [], (List.append_nil _).symm, h2.2.2.1, rfl, mo _ _ _ _ _ (fun r q => by rw [← List.append_nil M2] at q; exact q) (fun c f q => by rw [← List.append_nil M2] at q; exact q) h2.2.2.2⟩
theorem XE.callNTP {PT : Addr} {q : Str} (mo : MonoP p) (hE : ∀ σ, C.E σ = E) (h : XA C t ds M fun xs M1 => XA C tk ds M1 fun ys M2 => xs.length = a ∧ ys.length = m ∧ (xs ++ ys).length = n ∧ At M2 PT (.tab fun _ _ => q) ∧ p (xs ++ ys) (fun r => k r M2) (fun cls fs => C.x ds cls fs M2)) :
    XE C (tCallN a m (spD C.K n (purT PT q p)) (fun us ws => us ++ ws) E t tk) ds M k :=
  XE.callNT mo hE (gD := fun a b => a ++ b) (fun F ds vs es us _ _ r1 r2 => r1.append r2) h
end
end DL

namespace DL
open PySem L2 SX
/-! ### the state of the draws of the laws that count -/
def stA (l : Addr) (cs : List Int) (r t : Int) : List (Key × D) := [(kS "large", .raw l), (kS "items", .lst (cs.map D.int)), (kS "left", .int r), (kS "turn", .int t)]
def stMA (s l : Addr) (L cs : List Int) (r t : Int) : Mem := [(l, .lst (L.map D.int)), (s, .dct (stA l cs r t))]
structure StOkA (L cs : List Int) (r t : Int) (n : Nat) : Prop where
  large : ∀ x ∈ L, 0 ≤ x
  items : ∀ x ∈ cs, 0 ≤ x
  left : 0 ≤ r
  turn : 0 ≤ t ∧ t ≤ n
  bud : n ≤ 1000000000
  len : cs.length ≤ 1000
def IsA (s l : Addr) (n : Nat) (M : Mem) : Prop := ∃ L cs r t, M = stMA s l L cs r t ∧ StOkA L cs r t n
section
variable (l : Addr) (cs : List Int) (r t : Int)
theorem vaA_large : valD (stA l cs r t) (kS "large") = some (.raw l) := rfl
theorem vaA_items : valD (stA l cs r t) (kS "items") = some (.lst (cs.map D.int)) := rfl
theorem vaA_left : valD (stA l cs r t) (kS "left") = some (.int r) := rfl
theorem vaA_turn : valD (stA l cs r t) (kS "turn") = some (.int t) := rfl
theorem puA_left (r' : Int) : putDK (stA l cs r t) (kS "left") (.int r') = stA l cs r' t := rfl
theorem puA_turn (t' : Int) : putDK (stA l cs r t) (kS "turn") (.int t') = stA l cs r t' := rfl
end
theorem merge_A (l : Addr) (cs : List Int) (r t : Int) : mergeD (stA l cs r t) = stA l cs r t := rfl
theorem IsA.more {s l : Addr} {n m : Nat} {M : Mem} (h : IsA s l n M) (hn : n ≤ m) (hm : m ≤ 1000000000) : IsA s l m M := by
  obtain ⟨L, cs, r, t, e, h⟩ := h
  exact ⟨L, cs, r, t, e, ⟨h.large, h.items, h.left, ⟨h.turn.1, by have := h.turn.2; omega⟩, hm, h.len⟩⟩
theorem XE.lrgK {C : Cfg} {ds : DS} {M : Mem} {k : D → Mem → Prop} {ta : TE} (h : XE C ta ds M fun x M1 => ∃ n : Nat, x = .int n ∧ n ≤ 1000000 ∧ ∀ p, p ∉ dom M1 → k (.raw p) ((p, .lst (((List.range n).map fun i : Nat => (i : Int)).map D.int)) :: M1)) : XE C (tLstRg (tRg1 ta)) ds M k := XE.lrg fun F H σ s e c Q g => h F H σ s e c Q fun x M1 v F1 H1 n1 r1 h1 => g x M1 v F1 H1 n1 r1 (by
  obtain ⟨n, e, hn, q⟩ := h1
  refine ⟨n, e, hn, fun p hp => ?_⟩
  have e2 : rngD 0 n = ((List.range n).map fun i : Nat => (i : Int)).map D.int := by
    unfold rngD
    rw [List.map_map]
    refine List.map_congr_left fun i _ => ?_
    show D.int (0 + (i : Nat)) = D.int i
    rw [Int.zero_add]
  rw [e2]
  exact q p hp)
end DL

namespace DL
open PySem L2
theorem at_last {α : Type} {xs : List α} {x : α} {n : Nat} (h : xs[n]? = some x) (hn : n + 1 = xs.length) : L2.atI xs (-1) = some x := by
  unfold L2.atI L2.ixN
  rw [if_neg (by decide)]
  split
  · have e : (-1 + (xs.length : Int)).toNat = n := by omega
    show xs[(-1 + (xs.length : Int)).toNat]? = some x
    rw [e]
    exact h
  · omega
theorem asc_mono {ks : List Kn} (h : Asc ks) : ∀ {i j : Nat} {x y : Kn}, j ≤ i → ks[j]? = some x → ks[i]? = some y → x.1 ≤ y.1
  | 0, j, x, y, hj, h1, h2 => by
    have : j = 0 := by omega
    subst this
    rw [h1] at h2
    cases h2
    exact Rat.le_refl
  | i + 1, j, x, y, hj, h1, h2 => by
    by_cases e : j = i + 1
    · subst e
      rw [h1] at h2
      cases h2
      exact Rat.le_refl
    · have hi : i + 1 < ks.length := (List.getElem?_eq_some_iff.mp h2).1
      have hz : ks[i]? = some ks[i] := List.getElem?_eq_getElem (by omega)
      have a := asc_mono h (i := i) (j := j) (by omega) h1 hz
      have b := h i _ _ hz h2
      grind
theorem pos_piece {ks : List Kn} {t : Rat} {i : Nat} {a c : Kn} (h : Asc ks) (ha : ks[i]? = some a) (hc : ks[i + 1]? = some c) (h1 : ¬ t < a.1) (h2 : t < c.1) : posAt ks t = a.2 + (c.2 - a.2) / (c.1 - a.1) * (t - a.1) := by
  have hi : i + 1 < ks.length := (List.getElem?_eq_some_iff.mp hc).1
  have hp := piece_step (t := t) i h hi (fun j x hj1 hj2 hx => by
    have := asc_mono h hj2 hx ha
    grind) c hc h2
  obtain ⟨k, k1, _, k3⟩ := piece_ok (ks := ks) (by intro z; subst z; simp at hi) t
  rw [hp] at k1 k3
  rw [ha] at k1
  cases k1
  exact (k3 c hc).2.2
theorem pos_last {ks : List Kn} {t : Rat} {i : Nat} {a : Kn} (h : Asc ks) (ha : ks[i]? = some a) (hn : i + 1 = ks.length) (h1 : ¬ t < a.1) : posAt ks t = a.2 := by
  have hp := piece_end (t := t) i hn (fun j x hj1 hj2 hx => by
    have := asc_mono h hj2 hx ha
    grind)
  obtain ⟨k, k1, k2, _⟩ := piece_ok (ks := ks) (by intro z; subst z; simp at hn) t
  rw [hp] at k1 k2
  rw [ha] at k1
  cases k1
  exact (k2 (List.getElem?_eq_none (by omega))).1
theorem rise_divInt {r u g : Rat} (hu : u ≠ 0) : Rat.divInt (r.num * (u.den : Int) * g.num) ((r.den : Int) * u.num * (g.den : Int)) = r / u * g := by
  rw [← div_divInt r u, ← Rat.num_divInt_den g, Rat.divInt_mul_divInt, Rat.num_divInt_den]
end DL

namespace DL
open PySem L2
/-! ### timetables are linear between their turns -/
theorem slopes_cons {k k' : Kn} {r : List Kn} : slopes (k :: k' :: r) = (k'.2 - k.2) / (k'.1 - k.1) :: slopes (k' :: r) := rfl
theorem turnsAt_succ {k k' : Kn} {r : List Kn} (i : Nat) : turnsAt (k :: k' :: r) (i + 1) = turnsAt (k' :: r) i := by
  unfold turnsAt
  rw [slopes_cons]
  simp only [List.getElem?_cons_succ]
theorem slopes0 {k : Kn} {r : List Kn} (h : Asc (k :: r)) : (slopes (k :: r))[0]? = some (paceAt (k :: r) k.1) := by
  cases r with
  | nil => rfl
  | cons k' r =>
    rw [slopes_cons]
    have := h.head
    unfold paceAt
    rw [if_pos this]
    rfl
theorem posAt_head {k : Kn} {r : List Kn} (h : Asc (k :: r)) : posAt (k :: r) k.1 = k.2 := posAt_first h
/-- no turn strictly between: linear -/
theorem lin_on : ∀ {ks : List Kn} {e u : Rat}, Asc ks → ks ≠ [] → firstT ks ≤ e → e < u → (∀ i k, turnsAt ks i = some k → ¬ (e < k.1 ∧ k.1 < u)) →
    ∀ s, e ≤ s → s ≤ u → posAt ks s = posAt ks e + paceAt ks e * (s - e)
  | [], _, _, _, h, _, _, _ => absurd rfl h
  | [k], e, u, _, _, _, _, _ => fun s _ _ => by
    show k.2 = k.2 + 0 * (s - e)
    rw [Rat.zero_mul, Rat.add_zero]
  | k :: k' :: r, e, u, hA, _, h0, hu, hT => fun s h1 h2 => by
    have hk := hA.head
    have e0 : k.1 ≤ e := h0
    have dm : (k'.2 - k.2) / (k'.1 - k.1) * (k'.1 - k.1) = k'.2 - k.2 := Rat.div_mul_cancel (sub_ne hk)
    by_cases c1 : e < k'.1
    · have p1 : posAt (k :: k' :: r) e = k.2 + (k'.2 - k.2) / (k'.1 - k.1) * (e - k.1) := by
        conv => lhs; unfold posAt
        rw [if_pos c1]
      have q1 : paceAt (k :: k' :: r) e = (k'.2 - k.2) / (k'.1 - k.1) := by
        conv => lhs; unfold paceAt
        rw [if_pos c1]
      by_cases c2 : s < k'.1
      · have p2 : posAt (k :: k' :: r) s = k.2 + (k'.2 - k.2) / (k'.1 - k.1) * (s - k.1) := by
          conv => lhs; unfold posAt
          rw [if_pos c2]
        rw [p1, q1, p2]
        grind
      · have p2 : posAt (k :: k' :: r) s = posAt (k' :: r) s := by
          conv => lhs; unfold posAt
          rw [if_neg c2]
        by_cases c3 : k'.1 < s
        · have t0 : turnsAt (k :: k' :: r) 0 = none := by
            cases q : turnsAt (k :: k' :: r) 0 with
            | none => rfl
            | some z =>
              exfalso
              have ez : z = k' := by
                unfold turnsAt at q
                split at q
                · cases q
                · exact (Option.some.inj q).symm
              have := hT 0 z q
              rw [ez] at this
              exact this ⟨c1, by grind⟩
          have sl : paceAt (k' :: r) k'.1 = (k'.2 - k.2) / (k'.1 - k.1) := by
            unfold turnsAt at t0
            split at t0
            · rename_i z
              rw [slopes_cons, List.getElem?_cons_succ, slopes0 hA.tail] at z
              exact Option.some.inj z
            · cases t0
          have ih := lin_on (ks := k' :: r) (e := k'.1) (u := u) hA.tail (by simp) Rat.le_refl (by grind) (fun i z hz hh => hT (i + 1) z (by rw [turnsAt_succ]; exact hz) ⟨by grind, hh.2⟩) s (by grind) h2
          rw [sl, posAt_head hA.tail] at ih
          rw [p1, q1, p2, ih]
          grind
        · have e2 : s = k'.1 := by grind
          rw [p2, e2, posAt_head hA.tail, p1, q1]
          grind
    · have p1 : posAt (k :: k' :: r) e = posAt (k' :: r) e := by
        conv => lhs; unfold posAt
        rw [if_neg c1]
      have q1 : paceAt (k :: k' :: r) e = paceAt (k' :: r) e := by
        conv => lhs; unfold paceAt
        rw [if_neg c1]
      have p2 : posAt (k :: k' :: r) s = posAt (k' :: r) s := by
        conv => lhs; unfold posAt
        rw [if_neg (by grind)]
      rw [p1, q1, p2]
      exact lin_on (ks := k' :: r) hA.tail (by simp) (show k'.1 ≤ e by grind) hu (fun i z hz hh => hT (i + 1) z (by rw [turnsAt_succ]; exact hz) hh) s h1 h2
theorem turnsAt_mem {ks : List Kn} {i : Nat} {k : Kn} (h : turnsAt ks i = some k) : k ∈ turns ks := by
  unfold turns
  refine List.mem_append.mpr (.inr (List.mem_filterMap.mpr ⟨i, ?_, h⟩))
  unfold turnsAt at h
  split at h
  · cases h
  · have := (List.getElem?_eq_some_iff.mp h).1
    exact List.mem_range.mpr (by omega)
theorem gap_lin {ks js : List Kn} {e u : Rat} (h1 : Asc ks) (h2 : Asc js) (n1 : ks ≠ []) (n2 : js ≠ []) (f1 : firstT ks ≤ e) (f2 : firstT js ≤ e) (hu : e < u) (hT : ∀ x ∈ tt ks js, ¬ (e < x ∧ x < u)) :
    ∃ p, ∀ s, e ≤ s → s ≤ u → gapQ ks js s = gapQ ks js e + p * (s - e) := by
  refine ⟨paceAt ks e - paceAt js e, fun s a b => ?_⟩
  have i1 := lin_on h1 n1 f1 hu (fun i k hk => hT _ (List.mem_map.mpr ⟨k, List.mem_append_left _ (turnsAt_mem hk), rfl⟩)) s a b
  have i2 := lin_on h2 n2 f2 hu (fun i k hk => hT _ (List.mem_map.mpr ⟨k, List.mem_append_right _ (turnsAt_mem hk), rfl⟩)) s a b
  unfold gapQ
  rw [i1, i2]
  grind
theorem rat_tri (a b : Rat) : a < b ∨ a = b ∨ b < a := by grind
theorem sgn_mul {a b : Rat} (h : 0 < b) : sgn (a * b) = sgn a := by
  rcases rat_tri a 0 with q | q | q
  · have := Rat.mul_lt_mul_of_pos_right q h
    rw [Rat.zero_mul] at this
    unfold sgn
    grind
  · rw [q, Rat.zero_mul]
  · have := Rat.mul_pos q h
    unfold sgn
    grind
/-- the side from which a value is reached at t -/
def Bef (g : Rat → Rat) (t : Rat) (σ : Int) : Prop := ∃ u e, e < u ∧ u ≤ t ∧ (∀ s, u ≤ s → s ≤ t → g s = g t) ∧ ∀ s, e ≤ s → s < u → sgn (g s - g t) = σ
theorem side_bef {ks js : List Kn} (h1 : Asc ks) (h2 : Asc js) (n1 : ks ≠ []) (n2 : js ≠ []) {t : Rat} : ∀ (n : Nat) (u : Rat), laterB ks js ≤ u → u ≤ t → (∀ s, u ≤ s → s ≤ t → gapQ ks js s = gapQ ks js t) → (sideN ks js (gapQ ks js t) n u).2 ≠ 0 → Bef (gapQ ks js) t (sideN ks js (gapQ ks js t) n u).2
  | 0, u, _, _, _, h => absurd rfl h
  | n + 1, u, hb, hu, hg, h => by
    have f1 : firstT ks ≤ lastT ks js u := by
      have := lastT_ge ks js u
      unfold laterB at this
      grind
    have f2 : firstT js ≤ lastT ks js u := by
      have := lastT_ge ks js u
      unfold laterB at this
      grind
    unfold sideN at h ⊢
    by_cases c : laterB ks js < u
    · rw [if_pos c] at h ⊢
      have hl := lastT_lt c
      obtain ⟨p, hp⟩ := gap_lin h1 h2 n1 n2 f1 f2 hl (fun x hx z => by
        have := (last_fold u (tt ks js) (laterB ks js)).2.2 x hx z.2
        have z1 := z.1
        unfold lastT at z1
        grind)
      have eu := hp u (Rat.le_of_lt hl) Rat.le_refl
      have eg := hg u Rat.le_refl hu
      by_cases d : sgn (gapQ ks js (lastT ks js u) - gapQ ks js t) ≠ 0
      · rw [if_pos d] at h ⊢
        refine ⟨u, lastT ks js u, hl, hu, hg, fun s s1 s2 => ?_⟩
        have es := hp s s1 (Rat.le_of_lt s2)
        have a1 : gapQ ks js s - gapQ ks js t = -p * (u - s) := by grind
        have a2 : gapQ ks js (lastT ks js u) - gapQ ks js t = -p * (u - lastT ks js u) := by grind
        rw [a1, a2, sgn_mul (by grind), sgn_mul (by grind)]
      · rw [if_neg d] at h ⊢
        have d0 : gapQ ks js (lastT ks js u) = gapQ ks js t := by
          have := sgn_zero.mp (Classical.not_not.mp d)
          grind
        have p0 : p = 0 := by
          have : p * (u - lastT ks js u) = 0 := by grind
          rcases Rat.mul_eq_zero.mp this with z | z
          · exact z
          · grind
        refine side_bef h1 h2 n1 n2 n _ (lastT_ge ks js u) (by grind) (fun s s1 s2 => ?_) h
        by_cases c4 : u ≤ s
        · exact hg s c4 s2
        · rw [hp s s1 (by grind), p0, d0]
          grind
    · rw [if_neg c] at h
      exact absurd rfl h
theorem bef_uniq {g : Rat → Rat} {t : Rat} {a b : Int} (h1 : Bef g t a) (h2 : Bef g t b) (ha : a ≠ 0) (hb : b ≠ 0) : a = b := by
  obtain ⟨u, e, h3, h4, h5, h6⟩ := h1
  obtain ⟨u', e', h3', h4', h5', h6'⟩ := h2
  have z0 : sgn (g t - g t) = 0 := sgn_zero.mpr (by grind)
  rcases rat_tri u u' with q | q | q
  · have m1 : ∃ s, e' ≤ s ∧ u ≤ s ∧ s < u' := by
      by_cases c : e' ≤ u
      · exact ⟨u, c, Rat.le_refl, q⟩
      · exact ⟨e', Rat.le_refl, by grind, h3'⟩
    obtain ⟨s, s1, s2, s3⟩ := m1
    have x := h6' s s1 s3
    rw [h5 s s2 (by grind), z0] at x
    exact absurd x.symm hb
  · subst q
    have m1 : ∃ s, e' ≤ s ∧ e ≤ s ∧ s < u := by
      by_cases c : e' ≤ e
      · exact ⟨e, c, Rat.le_refl, h3⟩
      · exact ⟨e', Rat.le_refl, by grind, h3'⟩
    obtain ⟨s, s1, s2, s3⟩ := m1
    exact (h6 s s2 s3).symm.trans (h6' s s1 s3)
  · have m1 : ∃ s, e ≤ s ∧ u' ≤ s ∧ s < u := by
      by_cases c : e ≤ u'
      · exact ⟨u', c, Rat.le_refl, q⟩
      · exact ⟨e, Rat.le_refl, by grind, h3⟩
    obtain ⟨s, s1, s2, s3⟩ := m1
    have x := h6 s s1 s3
    rw [h5' s s2 (by grind), z0] at x
    exact absurd x.symm ha
theorem sgn_add {x y : Rat} {a : Int} (h1 : sgn x = a) (h2 : sgn y = a) : sgn (x + y) = a := by
  unfold sgn at *
  grind
/-- two steps from the same side -/
theorem bef_add {g h f : Rat → Rat} {t : Rat} {a : Int} (e : ∀ s, f s = g s + h s) (h1 : Bef g t a) (h2 : Bef h t a) : Bef f t a := by
  obtain ⟨u, e1, h3, h4, h5, h6⟩ := h1
  obtain ⟨u', e2, h3', h4', h5', h6'⟩ := h2
  rcases rat_tri u u' with q | q | q
  · have m1 : ∃ s, e2 ≤ s ∧ u ≤ s ∧ s < u' := by
      by_cases c : e2 ≤ u
      · exact ⟨u, c, Rat.le_refl, q⟩
      · exact ⟨e2, Rat.le_refl, by grind, h3'⟩
    obtain ⟨s0, s1, s2, s3⟩ := m1
    refine ⟨u', s0, s3, h4', fun s a1 a2 => by rw [e s, e t, h5 s (by grind) a2, h5' s a1 a2], fun s a1 a2 => ?_⟩
    have := h6' s (by grind) a2
    rw [e s, e t, h5 s (by grind) (by grind), show g t + h s - (g t + h t) = h s - h t by grind]
    exact this
  · subst q
    have m1 : ∃ s, e1 ≤ s ∧ e2 ≤ s ∧ s < u := by
      by_cases c : e2 ≤ e1
      · exact ⟨e1, Rat.le_refl, c, h3⟩
      · exact ⟨e2, by grind, Rat.le_refl, h3'⟩
    obtain ⟨s0, s1, s2, s3⟩ := m1
    refine ⟨u, s0, s3, h4, fun s a1 a2 => by rw [e s, e t, h5 s a1 a2, h5' s a1 a2], fun s a1 a2 => ?_⟩
    rw [e s, e t, show g s + h s - (g t + h t) = (g s - g t) + (h s - h t) by grind]
    exact sgn_add (h6 s (by grind) a2) (h6' s (by grind) a2)
  · have m1 : ∃ s, e1 ≤ s ∧ u' ≤ s ∧ s < u := by
      by_cases c : e1 ≤ u'
      · exact ⟨u', c, Rat.le_refl, q⟩
      · exact ⟨e1, Rat.le_refl, by grind, h3⟩
    obtain ⟨s0, s1, s2, s3⟩ := m1
    refine ⟨u, s0, s3, h4, fun s a1 a2 => by rw [e s, e t, h5 s a1 a2, h5' s (by grind) a2], fun s a1 a2 => ?_⟩
    have := h6 s (by grind) a2
    rw [e s, e t, h5' s (by grind) (by grind), show g s + h t - (g t + h t) = g s - g t by grind]
    exact this
theorem side_Bef {L : Option Int} {b t : Rat} {ks js : List Kn} (h : Two L b ks js) (h1 : Asc ks) (h2 : Asc js) (ht : b ≤ t) (hc : isCon L (gapQ ks js t) = true) : Bef (gapQ ks js) t (sideA ks js t) :=
  side_bef h1 h2 h.ne1 h.ne2 _ t (by rw [h.later]; exact ht) Rat.le_refl (fun s a1 a2 => by rw [show s = t by grind]) (h.side ht hc)
/-- who is behind of two that are behind -/
theorem side_trans {L : Option Int} {b t : Rat} {ks js is : List Kn} (h : Two L b ks js) (h' : Two L b js is) (h'' : Two L b ks is) (a1 : Asc ks) (a2 : Asc js) (a3 : Asc is) (ht : b ≤ t)
    (c1 : isCon L (gapQ ks js t) = true) (c2 : isCon L (gapQ js is t) = true) (c3 : isCon L (gapQ ks is t) = true) (s1 : sideA ks js t < 0) (s2 : sideA js is t < 0) : sideA ks is t < 0 := by
  have b1 := side_Bef h a1 a2 ht c1
  have b2 := side_Bef h' a2 a3 ht c2
  have b3 := side_Bef h'' a1 a3 ht c3
  have r : ∀ {g : Rat → Rat} {x : Int}, Bef g t x → x < 0 → x = -1 := fun {g x} hB hx => by
    obtain ⟨u, e, e1, _, _, e4⟩ := hB
    have := e4 e Rat.le_refl e1
    unfold sgn at this
    split at this
    · omega
    · split at this <;> omega
  have n1 := r b1 s1
  have n2 := r b2 s2
  rw [n1] at b1
  rw [n2] at b2
  have b4 : Bef (gapQ ks is) t (-1) := bef_add (fun s => by unfold gapQ; grind) b1 b2
  have := bef_uniq b3 b4 (h''.side ht c3) (by omega)
  omega
/-! ### spots and laps -/
theorem spot_range {l : Int} {x : Rat} (h : 1 ≤ l) : 0 ≤ spotQ (some l) x ∧ spotQ (some l) x < (l : Rat) := by
  have hp := cast_pos h
  have h1 := Rat.floor_le (x / (l : Rat))
  have h2 := Rat.lt_floor_add_one (x / (l : Rat))
  have h1 := (le_div hp).mp h1
  rw [Rat.intCast_add] at h2
  have h2 := (div_lt hp).mp h2
  have e1 : ((1 : Int) : Rat) = 1 := rfl
  rw [e1] at h2
  show 0 ≤ x - (l : Rat) * ((x / (l : Rat)).floor : Int) ∧ x - (l : Rat) * ((x / (l : Rat)).floor : Int) < (l : Rat)
  constructor <;> grind
theorem spot_floor (L : Option Int) (x : Rat) : x = spotQ L x + (match L with | none => 0 | some l => (l : Rat)) * (floorQ L x : Rat) := by
  cases L with
  | none =>
    show x = x + 0 * _
    grind
  | some l =>
    show x = x - (l : Rat) * ((x / (l : Rat)).floor : Int) + (l : Rat) * ((x / (l : Rat)).floor : Int)
    grind
theorem con_spot {L : Option Int} (hL : ∀ l, L = some l → 1 ≤ l) {x y : Rat} : isCon L (x - y) = true ↔ spotQ L x = spotQ L y := by
  refine ⟨fun h => ?_, con_of_spot hL⟩
  cases L with
  | none =>
    have h : x - y = 0 := of_decide_eq_true h
    show x = y
    grind
  | some l =>
    have hl := hL l rfl
    have hp := cast_pos hl
    have h : ((x - y) / (l : Rat)).den = 1 := of_decide_eq_true h
    have h2 := den1.mp h
    generalize ((x - y) / (l : Rat)).floor = z at h2
    have h3 : (z : Rat) * (l : Rat) = x - y := by rw [h2]; exact div_mul_self (by grind)
    obtain ⟨a1, a2⟩ := spot_range (x := x) hl
    obtain ⟨b1, b2⟩ := spot_range (x := y) hl
    have ex := spot_floor (some l) x
    have ey := spot_floor (some l) y
    dsimp only at ex ey
    have e4 : spotQ (some l) x - spotQ (some l) y = (l : Rat) * ((z - floorQ (some l) x + floorQ (some l) y : Int) : Rat) := by
      rw [Rat.intCast_add, Rat.intCast_sub]
      grind
    have : z - floorQ (some l) x + floorQ (some l) y = 0 := by
      generalize z - floorQ (some l) x + floorQ (some l) y = w at e4
      rcases Int.lt_trichotomy w 0 with q | q | q
      · have : (w : Rat) ≤ ((-1 : Int) : Rat) := Rat.intCast_le_intCast.mpr (by omega)
        have := Rat.mul_le_mul_of_nonneg_left this (Rat.le_of_lt hp)
        have e5 : ((-1 : Int) : Rat) = -1 := rfl
        rw [e5] at this
        grind
      · exact q
      · have : ((1 : Int) : Rat) ≤ (w : Rat) := Rat.intCast_le_intCast.mpr (by omega)
        have := Rat.mul_le_mul_of_nonneg_left this (Rat.le_of_lt hp)
        have e5 : ((1 : Int) : Rat) = 1 := rfl
        rw [e5] at this
        grind
    rw [this] at e4
    have e5 : ((0 : Int) : Rat) = 0 := rfl
    rw [e5] at e4
    grind
theorem laps_floor {L : Option Int} (hL : ∀ l, L = some l → 1 ≤ l) (x y : Rat) : lapsIn L (x - y) = floorQ L x - floorQ L y - (if spotQ L x < spotQ L y then 1 else 0) := by
  cases L with
  | none =>
    show (if 0 ≤ x - y then (0 : Int) else -1) = 0 - 0 - (if x < y then 1 else 0)
    by_cases h : x < y
    · rw [if_pos h, if_neg (by grind)]
      rfl
    · rw [if_neg h, if_pos (by grind)]
      rfl
  | some l =>
    have hl := hL l rfl
    have hp := cast_pos hl
    obtain ⟨a1, a2⟩ := spot_range (x := x) hl
    obtain ⟨b1, b2⟩ := spot_range (x := y) hl
    have ex := spot_floor (some l) x
    have ey := spot_floor (some l) y
    dsimp only at ex ey
    show ((x - y) / (l : Rat)).floor = _
    refine floor_eq ((le_div hp).mpr ?_) ((div_lt hp).mpr ?_)
    · rw [Rat.intCast_sub, Rat.intCast_sub]
      split
      · have e5 : ((1 : Int) : Rat) = 1 := rfl
        rw [e5]
        grind
      · have e5 : ((0 : Int) : Rat) = 0 := rfl
        rw [e5]
        grind
    · rw [Rat.intCast_sub, Rat.intCast_sub]
      split
      · have e5 : ((1 : Int) : Rat) = 1 := rfl
        rw [e5]
        grind
      · have e5 : ((0 : Int) : Rat) = 0 := rfl
        rw [e5]
        grind
end DL

namespace DL
open PySem L2
/-! ### the order of the loads at a time; ranks -/
/-- loads as the plain laws see them -/
structure Plain (L : Option Int) (b : Rat) (ns : List Str) (kf : Str → List Kn) : Prop where
  hL : ∀ l, L = some l → 1 ≤ l
  nd : ns.Nodup
  asc : ∀ n ∈ ns, Asc (kf n)
  two : ∀ m ∈ ns, ∀ n ∈ ns, m ≠ n → Two L b (kf m) (kf n)
def xAt (kf : Str → List Kn) (t : Rat) (n : Str) : Rat := posAt (kf n) t
def spA (L : Option Int) (kf : Str → List Kn) (t : Rat) (n : Str) : Rat := spotQ L (xAt kf t n)
def flA (L : Option Int) (kf : Str → List Kn) (t : Rat) (n : Str) : Int := floorQ L (xAt kf t n)
def prec (L : Option Int) (kf : Str → List Kn) (t : Rat) (m n : Str) : Prop := spA L kf t m < spA L kf t n ∨ (spA L kf t m = spA L kf t n ∧ sideA (kf m) (kf n) t < 0)
open Classical in
noncomputable def rho (L : Option Int) (ns : List Str) (kf : Str → List Kn) (t : Rat) (n : Str) : Nat := ns.countP fun m => decide (prec L kf t m n)
section
variable {L : Option Int} {b t : Rat} {ns : List Str} {kf : Str → List Kn}
theorem sideA_symm (ks js : List Kn) (t : Rat) : sideA js ks t = - sideA ks js t := sideB_symm ks js t
theorem prec_irr (n : Str) : ¬ prec L kf t n n := by
  rintro (h | ⟨_, h⟩)
  · exact Rat.lt_irrefl h
  · have := sideA_symm (kf n) (kf n) t
    omega
theorem prec_as {m n : Str} (h : prec L kf t m n) : ¬ prec L kf t n m := by
  rintro (h' | ⟨h1, h2⟩)
  · rcases h with h | ⟨h, _⟩ <;> grind
  · rcases h with h | ⟨_, h⟩
    · grind
    · have := sideA_symm (kf m) (kf n) t
      omega
theorem Plain.gap (P : Plain L b ns kf) {m n : Str} : isCon L (gapQ (kf m) (kf n) t) = true ↔ spA L kf t m = spA L kf t n := con_spot P.hL
theorem prec_tot (P : Plain L b ns kf) (ht : b ≤ t) {m n : Str} (hm : m ∈ ns) (hn : n ∈ ns) (hne : m ≠ n) : prec L kf t m n ∨ prec L kf t n m := by
  rcases rat_tri (spA L kf t m) (spA L kf t n) with h | h | h
  · exact .inl (.inl h)
  · have := (P.two m hm n hn hne).side ht (P.gap.mpr h)
    have e := sideA_symm (kf m) (kf n) t
    by_cases c : sideA (kf m) (kf n) t < 0
    · exact .inl (.inr ⟨h, c⟩)
    · exact .inr (.inr ⟨h.symm, by omega⟩)
  · exact .inr (.inl h)
theorem prec_trans (P : Plain L b ns kf) (ht : b ≤ t) {m n o : Str} (hm : m ∈ ns) (hn : n ∈ ns) (ho : o ∈ ns) (h1 : prec L kf t m n) (h2 : prec L kf t n o) : prec L kf t m o := by
  by_cases e1 : m = n
  · subst e1; exact h2
  by_cases e2 : n = o
  · subst e2; exact h1
  by_cases e3 : m = o
  · subst e3; exact absurd h2 (prec_as h1)
  rcases h1 with h1 | ⟨h1, s1⟩
  · rcases h2 with h2 | ⟨h2, _⟩
    · exact .inl (by grind)
    · exact .inl (by grind)
  · rcases h2 with h2 | ⟨h2, s2⟩
    · exact .inl (by grind)
    · exact .inr ⟨h1.trans h2, side_trans (P.two m hm n hn e1) (P.two n hn o ho e2) (P.two m hm o ho e3) (P.asc m hm) (P.asc n hn) (P.asc o ho) ht (P.gap.mpr h1) (P.gap.mpr h2) (P.gap.mpr (h1.trans h2)) s1 s2⟩
open Classical in
theorem laps_prec (P : Plain L b ns kf) (ht : b ≤ t) {m n : Str} (hm : m ∈ ns) (hn : n ∈ ns) (hne : m ≠ n) : lapsB L (kf m) (kf n) t = flA L kf t m - flA L kf t n - (if prec L kf t m n then 1 else 0) := by
  have e := laps_floor P.hL (xAt kf t m) (xAt kf t n)
  unfold lapsB
  show (if isCon L (gapQ (kf m) (kf n) t) = true then lapsIn L (xAt kf t m - xAt kf t n) - _ else lapsIn L (xAt kf t m - xAt kf t n)) = _
  rw [e]
  by_cases c : isCon L (gapQ (kf m) (kf n) t) = true
  · have s := P.gap.mp c
    have s2 : ¬ spotQ L (xAt kf t m) < spotQ L (xAt kf t n) := by
      have : spotQ L (xAt kf t m) = spotQ L (xAt kf t n) := s
      grind
    rw [if_pos c, if_neg s2]
    have e2 : (prec L kf t m n) ↔ sideA (kf m) (kf n) t < 0 := ⟨fun h => h.elim (fun q => absurd q s2) (·.2), fun h => .inr ⟨s, h⟩⟩
    simp only [e2]
    show _ - _ - 0 - _ = flA L kf t m - flA L kf t n - _
    unfold flA
    omega
  · have s : ¬ spA L kf t m = spA L kf t n := fun z => c (P.gap.mpr z)
    rw [if_neg c]
    have e2 : (prec L kf t m n) ↔ spotQ L (xAt kf t m) < spotQ L (xAt kf t n) := ⟨fun h => h.elim id fun q => absurd q.1 s, fun h => .inl h⟩
    simp only [e2]
    rfl
theorem prec_begin (P : Plain L b ns kf) {m n : Str} (hm : m ∈ ns) (hn : n ∈ ns) (hne : m ≠ n) : prec L kf b m n ↔ spA L kf b m < spA L kf b n := ⟨fun h => h.elim id (fun q => by
  have := P.gap.mpr q.1
  rw [(P.two m hm n hn hne).apart] at this
  cases this), .inl⟩
end
/-! ### counting with a strict order -/
section
variable {α : Type}
theorem sum_if (p : α → Prop) [DecidablePred p] : ∀ xs : List α, (xs.map fun x => if p x then (1 : Int) else 0).sum = (xs.countP fun x => decide (p x) : Nat)
  | [] => rfl
  | x :: xs => by
    rw [List.map_cons, List.sum_cons, List.countP_cons, sum_if p xs]
    by_cases h : p x
    · rw [if_pos h, if_pos (by simpa using h)]
      omega
    · rw [if_neg h, if_neg (by simpa using h)]
      omega
theorem sum_const (xs : List α) (c : Int) : (xs.map fun _ => c).sum = xs.length * c := by
  induction xs with
  | nil => simp
  | cons x xs ih =>
    rw [List.map_cons, List.sum_cons, ih, List.length_cons]
    have : ((xs.length + 1 : Nat) : Int) = (xs.length : Int) + 1 := by omega
    rw [this, Int.add_mul]
    omega
theorem sum_sub (xs : List α) (f g : α → Int) : (xs.map fun x => f x - g x).sum = (xs.map f).sum - (xs.map g).sum := by
  induction xs with
  | nil => rfl
  | cons x xs ih =>
    simp only [List.map_cons, List.sum_cons, ih]
    omega
theorem sum_congr {xs : List α} {f g : α → Int} (h : ∀ x ∈ xs, f x = g x) : (xs.map f).sum = (xs.map g).sum := by
  rw [List.map_congr_left h]
open Classical in
/-- those before, the one, those behind -/
theorem count_split {R : α → α → Prop} (irr : ∀ x, ¬ R x x) (as : ∀ x y, R x y → ¬ R y x) : ∀ {xs : List α} {n : α}, xs.Nodup → n ∈ xs → (∀ y ∈ xs, y ≠ n → R y n ∨ R n y) →
    (xs.countP fun m => decide (R m n)) + (xs.countP fun m => decide (R n m)) + 1 = xs.length
  | x :: xs, n, nd, hn, tot => by
    rw [List.nodup_cons] at nd
    rw [List.countP_cons, List.countP_cons, List.length_cons]
    by_cases e : x = n
    · subst e
      rw [if_neg (by simpa using irr x)]
      have : ∀ {ys : List α}, x ∉ ys → (∀ y ∈ ys, y ≠ x → R y x ∨ R x y) → (ys.countP fun m => decide (R m x)) + (ys.countP fun m => decide (R x m)) = ys.length := fun {ys} h1 h2 => by
        induction ys with
        | nil => rfl
        | cons y ys ih =>
          rw [List.countP_cons, List.countP_cons, List.length_cons]
          have hy : y ≠ x := fun z => h1 (by rw [z]; exact List.mem_cons_self)
          have := ih (fun z => h1 (List.mem_cons_of_mem _ z)) fun z hz => h2 z (List.mem_cons_of_mem _ hz)
          rcases h2 y List.mem_cons_self hy with q | q
          · rw [if_pos (by simpa using q), if_neg (by simpa using as _ _ q)]
            omega
          · rw [if_neg (by simpa using as _ _ q), if_pos (by simpa using q)]
            omega
      have := this nd.1 fun y hy => tot y (List.mem_cons_of_mem _ hy)
      omega
    · have hm := (List.mem_cons.mp hn).resolve_left fun z => e z.symm
      have := count_split irr as nd.2 hm fun y hy => tot y (List.mem_cons_of_mem _ hy)
      rcases tot x List.mem_cons_self e with q | q
      · rw [if_pos (by simpa using q), if_neg (by simpa using as _ _ q)]
        omega
      · rw [if_neg (by simpa using as _ _ q), if_pos (by simpa using q)]
        omega
  | [], _, _, h, _ => by simp at h
end
section
variable {L : Option Int} {b t : Rat} {ns : List Str} {kf : Str → List Kn}
open Classical in
theorem rho_split (P : Plain L b ns kf) (ht : b ≤ t) {n : Str} (hn : n ∈ ns) : rho L ns kf t n + (ns.countP fun m => decide (prec L kf t n m)) + 1 = ns.length :=
  count_split (R := prec L kf t) prec_irr (fun _ _ => prec_as) P.nd hn fun y hy hne => prec_tot P ht hy hn hne
/-- by how much a rank grows, with one other -/
def growP (L : Option Int) (b : Rat) (kf : Str → List Kn) (n : Str) (t : Rat) (o : Str) : Int := if o = n then 0 else lapsB L (kf n) (kf o) t - lapsB L (kf n) (kf o) b
open Classical in
theorem laps_sum (P : Plain L b ns kf) (ht : b ≤ t) {n : Str} (hn : n ∈ ns) : (ns.map fun o => if o = n then (0 : Int) else lapsB L (kf n) (kf o) t).sum = ns.length * flA L kf t n - (ns.map (flA L kf t)).sum - (ns.length - 1 - rho L ns kf t n : Int) := by
  have e : (ns.map fun o => if o = n then (0 : Int) else lapsB L (kf n) (kf o) t).sum = (ns.map fun o => (flA L kf t n - flA L kf t o) - (if prec L kf t n o then 1 else 0)).sum := sum_congr fun o ho => by
    by_cases h : o = n
    · rw [if_pos h, h, if_neg (prec_irr n)]
      omega
    · rw [if_neg h, laps_prec P ht hn ho (Ne.symm h)]
  rw [e, sum_sub, sum_sub, sum_const, sum_if]
  have := rho_split P ht hn
  omega
theorem rank_form (P : Plain L b ns kf) (ht : b ≤ t) {n : Str} (hn : n ∈ ns) : (rho L ns kf b n : Int) + (ns.map (growP L b kf n t)).sum = rho L ns kf t n + ns.length * (flA L kf t n - flA L kf b n) - ((ns.map (flA L kf t)).sum - (ns.map (flA L kf b)).sum) := by
  have h1 := laps_sum P ht hn
  have h2 := laps_sum P (t := b) Rat.le_refl hn
  have e : (ns.map (growP L b kf n t)).sum = (ns.map fun o => if o = n then (0 : Int) else lapsB L (kf n) (kf o) t).sum - (ns.map fun o => if o = n then (0 : Int) else lapsB L (kf n) (kf o) b).sum := by
    rw [← sum_sub]
    exact sum_congr fun o _ => by
      unfold growP
      split <;> omega
  rw [e, h1, h2, Int.mul_sub]
  omega
open Classical in
theorem rho_lt (P : Plain L b ns kf) (ht : b ≤ t) {m n : Str} (hm : m ∈ ns) (hn : n ∈ ns) (h : prec L kf t m n) : rho L ns kf t m < rho L ns kf t n := by
  unfold rho
  have key : ∀ {xs : List Str}, m ∈ xs → (∀ x ∈ xs, x ∈ ns) → (xs.countP fun o => decide (prec L kf t o m)) < (xs.countP fun o => decide (prec L kf t o n)) := by
    intro xs
    induction xs with
    | nil => intro hx; simp at hx
    | cons x xs ih =>
      intro hx hs
      have hmono : (xs.countP fun o => decide (prec L kf t o m)) ≤ (xs.countP fun o => decide (prec L kf t o n)) := List.countP_mono_left fun y hy hp => decide_eq_true (prec_trans P ht (hs y (List.mem_cons_of_mem _ hy)) hm hn (of_decide_eq_true hp) h)
      rw [List.countP_cons, List.countP_cons]
      rcases List.mem_cons.mp hx with rfl | hx
      · rw [if_neg (by simpa using prec_irr m), if_pos (by simpa using h)]
        omega
      · have := ih hx fun y hy => hs y (List.mem_cons_of_mem _ hy)
        by_cases c : prec L kf t x m
        · rw [if_pos (by simpa using c), if_pos (by simpa using prec_trans P ht (hs x List.mem_cons_self) hm hn c h)]
          omega
        · rw [if_neg (by simpa using c)]
          split <;> omega
  exact key hm fun _ h => h
theorem rho_iff (P : Plain L b ns kf) (ht : b ≤ t) {m n : Str} (hm : m ∈ ns) (hn : n ∈ ns) : rho L ns kf t m < rho L ns kf t n ↔ prec L kf t m n := ⟨fun h => by
  by_cases e : m = n
  · subst e; omega
  rcases prec_tot P ht hm hn e with q | q
  · exact q
  · have := rho_lt P ht hn hm q
    omega, rho_lt P ht hm hn⟩
theorem rho_inj (P : Plain L b ns kf) (ht : b ≤ t) {m n : Str} (hm : m ∈ ns) (hn : n ∈ ns) (h : rho L ns kf t m = rho L ns kf t n) : m = n := Classical.byContradiction fun e => by
  rcases prec_tot P ht hm hn e with q | q
  · have := rho_lt P ht hm hn q; omega
  · have := rho_lt P ht hn hm q; omega
theorem rho_bound (P : Plain L b ns kf) (ht : b ≤ t) {n : Str} (hn : n ∈ ns) : rho L ns kf t n < ns.length := by
  have := rho_split P ht hn
  omega
/-- a list of different numbers below its length has each -/
theorem onto_of_inj {α : Type} {xs : List α} {f : α → Nat} (nd : xs.Nodup) (inj : ∀ x ∈ xs, ∀ y ∈ xs, f x = f y → x = y) (bd : ∀ x ∈ xs, f x < xs.length) {i : Nat} (hi : i < xs.length) : ∃ x ∈ xs, f x = i := by
  have h1 : (xs.map f).Nodup := by
    rw [List.nodup_iff_pairwise_ne, List.pairwise_map]
    exact List.Pairwise.imp_of_mem (fun ha hb hne z => hne (inj _ ha _ hb z)) (List.nodup_iff_pairwise_ne.mp nd)
  have h2 : (xs.map f) ⊆ List.range xs.length := fun y hy => by
    obtain ⟨x, hx, rfl⟩ := List.mem_map.mp hy
    exact List.mem_range.mpr (bd x hx)
  refine Classical.byContradiction fun hno => ?_
  have h3 : (xs.map f) ⊆ (List.range xs.length).erase i := fun y hy => by
    have hne : y ≠ i := fun z => by
      obtain ⟨x, hx, rfl⟩ := List.mem_map.mp hy
      exact hno ⟨x, hx, z⟩
    exact (List.mem_erase_of_ne hne).mpr (h2 hy)
  have h4 := List.Nodup.length_le_of_subset h1 h3
  rw [List.length_map, List.length_erase_of_mem (List.mem_range.mpr hi), List.length_range] at h4
  omega
theorem rho_onto (P : Plain L b ns kf) (ht : b ≤ t) {i : Nat} (hi : i < ns.length) : ∃ n ∈ ns, rho L ns kf t n = i := onto_of_inj P.nd (fun _ hm _ hn => rho_inj P ht hm hn) (fun _ hn => rho_bound P ht hn) hi
end
/-! ### a sorted list by how many are less -/
theorem sorted_at {xs : List Rat} (h : xs.Pairwise fun a b => a ≤ b) {i : Nat} {v : Rat} (h1 : (xs.countP fun x => decide (x < v)) ≤ i) (h2 : i < xs.countP fun x => decide (x ≤ v)) : xs[i]? = some v := by
  induction xs generalizing i with
  | nil => simp at h2
  | cons x xs ih =>
    rw [List.pairwise_cons] at h
    rw [List.countP_cons] at h1 h2
    rcases rat_tri x v with q | q | q
    · rw [if_pos (by simpa using q)] at h1
      rw [if_pos (by simp; grind)] at h2
      cases i with
      | zero => exact absurd h1 (by omega)
      | succ i => exact ih h.2 (by omega) (by omega)
    · rw [if_neg (by simp; grind)] at h1
      rw [if_pos (by simp; grind)] at h2
      cases i with
      | zero => rw [q]; rfl
      | succ i =>
        have z : (xs.countP fun x => decide (x < v)) = 0 := by
          rw [List.countP_eq_zero]
          intro y hy
          have := h.1 y hy
          simp
          grind
        exact ih h.2 (by omega) (by omega)
    · have : (xs.countP fun x => decide (x ≤ v)) = 0 := by
        rw [List.countP_eq_zero]
        intro y hy
        have := h.1 y hy
        simp
        grind
      rw [this, if_neg (by simp; grind)] at h2
      omega
open Classical in
theorem sorted_rho {L : Option Int} {b t : Rat} {ns : List Str} {kf : Str → List Kn} (P : Plain L b ns kf) (ht : b ≤ t) {xs : List Rat} (hp : xs.Perm (ns.map (spA L kf t))) (hs : xs.Pairwise fun a b => a ≤ b) {n : Str} (hn : n ∈ ns) : xs[rho L ns kf t n]? = some (spA L kf t n) := by
  refine sorted_at hs ?_ ?_
  · rw [hp.countP_eq, List.countP_map]
    exact List.countP_mono_left fun m _ h => decide_eq_true (.inl (by
      have : spA L kf t m < spA L kf t n := by simpa using h
      exact this))
  · rw [hp.countP_eq, List.countP_map]
    have key : ∀ {ys : List Str}, n ∈ ys → (ys.countP fun m => decide (prec L kf t m n)) < ys.countP ((fun x => decide (x ≤ spA L kf t n)) ∘ spA L kf t) := by
      intro ys
      induction ys with
      | nil => intro h; simp at h
      | cons y ys ih =>
        intro h
        have hmono : (ys.countP fun m => decide (prec L kf t m n)) ≤ ys.countP ((fun x => decide (x ≤ spA L kf t n)) ∘ spA L kf t) := List.countP_mono_left fun m _ hq => by
          have := of_decide_eq_true hq
          show decide (spA L kf t m ≤ spA L kf t n) = true
          refine decide_eq_true ?_
          rcases this with z | ⟨z, _⟩ <;> grind
        rw [List.countP_cons, List.countP_cons]
        by_cases e : y = n
        · subst e
          rw [if_neg (by simpa using prec_irr y), if_pos (by show decide (spA L kf t y ≤ spA L kf t y) = true; exact decide_eq_true Rat.le_refl)]
          omega
        · have := ih ((List.mem_cons.mp h).resolve_left fun z => e z.symm)
          by_cases c : prec L kf t y n
          · rw [if_pos (by simpa using c), if_pos (by
              show decide (spA L kf t y ≤ spA L kf t n) = true
              refine decide_eq_true ?_
              rcases c with z | ⟨z, _⟩ <;> grind)]
            omega
          · rw [if_neg (by simpa using c)]
            split <;> omega
    exact key hn
end DL

namespace DL
open PySem PySem.Spec PyProof.Rows L2
/-! ### the end of a law that reaches a def with a lambda -/
def sp_lawT (P : Addr) (q : Str) : DSp := fun ds M k _ => ∃ xs : List Int, ds = [.ro (xs.map D.int)] ∧ M = tabM P q ∧ xs.length ≤ 1000 ∧ ∀ M', k (.bl true) M'
theorem lawT_hsp {K : PySem.W.Frag} {P : Addr} {q : Str} (H : Hp) (a : Addr) (ns : List Int) (hl : ns.length ≤ 1000) (hP : H P = some (.tbl #[])) (hS : SqL K H a (ns.map V.int)) : spD K 1 (sp_lawT P q) [.ref a] H (fun v _ => v = .bl true) fun _ _ _ => False := by
  refine ⟨fun b => if b = P then none else H b, tabM P q, [.ro (ns.map D.int)], ⟨fun b o h => ?_, fun p hp => ?_, by simp [dom]⟩, .cons (.ro ?_ (reps_ints ns)) .nil, rfl, ns, rfl, rfl, hl, fun M' v F' H' n r => by cases r; rfl⟩
  · by_cases e : b = P
    · rw [if_pos e] at h; cases h
    · rw [if_neg e] at h; exact h
  · rw [List.mem_singleton.mp hp]
    exact ⟨if_pos rfl, _, hP, #[], rfl, True.intro, fun pos cv h => by cases h⟩
  · have ne : ∀ u, H a = some u → u ≠ .tbl #[] → a ≠ P := fun u h1 h2 z => by
      rw [z, hP] at h1
      exact h2 (Option.some.inj h1).symm
    rcases hS with (h | ⟨o, h⟩) | h
    · exact .inl (.inl ((if_neg (ne _ h (by intro z; cases z))).trans h))
    · exact .inl (.inr ⟨o, (if_neg (ne _ h (by intro z; cases z))).trans h⟩)
    · exact .inr h
/-- what is known of the code object of a def with a lambda -/
structure LTab (K : PySem.W.Frag) (c P : Addr) : Prop where
  hd : PySem.W.codeHdIn K c P = true
  no : K.lookup P = none
theorem lawAt_mk {l : PySem.W.OpenLaw} {w : World} {K : PySem.W.Frag} {CX : CXT} {k : Nat} {mg : Str → Option Value} {h : Heap} {f c P : Addr} {fd : FuncData} {q : Str} (KX : K.In h) (LT : LTab K c P) (em : h.get? P = some { cls := .none, data := .fields #[] })
    (hb : ∀ (s : Shared) (u : Value), BindsTo s fd ⟨[u], []⟩ [("script", u)]) (hF : ∀ base : Heap, K.In base → base.Ns mainGlobals mg → LamX.TabB base mg c P → FnOk l.prog w K mg base CX k f fd ["script"] (spD K 1 (sp_lawT P q))) :
    LamX.LawAtS l w K CX k 63 "script" mg f h := by
  refine ⟨fd, [(c, P)], _, fun p hp => ?_, fun p hp => ?_, fun p hp => ?_, hb, fun H a ns hl _ hT hS => lawT_hsp H a ns (Nat.le_trans hl (by decide)) (hT _ (List.mem_singleton.mpr rfl)) hS, fun base hK hN hT => hF base hK hN (hT _ (List.mem_singleton.mpr rfl))⟩
  · rw [List.mem_singleton.mp hp]
    exact em
  · rw [List.mem_singleton.mp hp]
    exact LT.no
  · rw [List.mem_singleton.mp hp]
    exact PySem.W.codeHd_of_K KX LT.hd
end DL

namespace DL
open PySem L2
/-- what is owned at the front is let go -/
theorem XS.letgo {C : Cfg} {ts : TS} {ds : DS} {M : Mem} {P : Post} (M1 : Mem) (h : XS C ts ds M P) : XS C ts ds (M1 ++ M) P := fun F H σ s e c D f =>
  h F H σ (Nxt.drop (M1 := M1) s).st e (c.next (Nxt.drop (M1 := M1) s)) D (f.next (Nxt.drop (M1 := M1) s))
theorem XE.letgo {C : Cfg} {te : TE} {ds : DS} {M : Mem} {k : D → Mem → Prop} (M1 : Mem) (h : XE C te ds M k) : XE C te ds (M1 ++ M) k := fun F H σ s e c Q g =>
  h F H σ (Nxt.drop (M1 := M1) s).st e (c.next (Nxt.drop (M1 := M1) s)) Q (g.next (Nxt.drop (M1 := M1) s))
/-- the sizes of both parts of a fraction -/
structure BW (a b : Nat) (q : Rat) : Prop where
  num : B a q.num
  den : B b (q.den : Int)
theorem BQ.w {n : Nat} {q : Rat} (h : BQ n q) : BW n n q := ⟨h.num, h.den⟩
theorem BW.mono {a b c d : Nat} {q : Rat} (h : BW a b q) (h1 : a ≤ c) (h2 : b ≤ d) : BW c d q := ⟨h.num.mono h1, h.den.mono h2⟩
theorem BW.divInt {a b : Nat} {n d : Int} (hn : B a n) (hd : B b d) (h0 : d ≠ 0) : BW a b (Rat.divInt n d) :=
  ⟨hn.le (divInt_num_abs n d), hd.le (by rw [Int.natAbs_natCast]; exact divInt_den_le n d h0)⟩
theorem BW.add {a b c d : Nat} {p q : Rat} (h : BW a b p) (h' : BW c d q) : BW (max (a + d) (c + b) + 1) (b + d) (p + q) := by
  rw [← add_divInt]
  exact BW.divInt ((h.num.mul h'.den).add (h'.num.mul h.den)) (h.den.mul h'.den) (Int.mul_ne_zero (den_ne p) (den_ne q))
theorem BW.sub {a b c d : Nat} {p q : Rat} (h : BW a b p) (h' : BW c d q) : BW (max (a + d) (c + b) + 1) (b + d) (p - q) := by
  rw [← sub_divInt]
  exact BW.divInt ((h.num.mul h'.den).sub (h'.num.mul h.den)) (h.den.mul h'.den) (Int.mul_ne_zero (den_ne p) (den_ne q))
theorem BW.mul {a b c d : Nat} {p q : Rat} (h : BW a b p) (h' : BW c d q) : BW (a + c) (b + d) (p * q) := by
  rw [← mul_divInt]
  exact BW.divInt (h.num.mul h'.num) (h.den.mul h'.den) (Int.mul_ne_zero (den_ne p) (den_ne q))
theorem BW.int {n : Nat} {z : Int} (h : B n z) : BW n 1 (z : Rat) := ⟨h, B.one (by decide)⟩
end DL

namespace DL
open PySem L2
/-! ### how large places can be -/
theorem mid_le {x y s m : Rat} (h0 : 0 ≤ s) (h1 : s ≤ 1) (hx : x ≤ m) (hy : y ≤ m) : x + (y - x) * s ≤ m := by
  have a := Rat.mul_nonneg (show 0 ≤ 1 - s by grind) (show 0 ≤ m - x by grind)
  have b := Rat.mul_nonneg h0 (show 0 ≤ m - y by grind)
  grind
theorem mid_ge {x y s m : Rat} (h0 : 0 ≤ s) (h1 : s ≤ 1) (hx : m ≤ x) (hy : m ≤ y) : m ≤ x + (y - x) * s := by
  have a := Rat.mul_nonneg (show 0 ≤ 1 - s by grind) (show 0 ≤ x - m by grind)
  have b := Rat.mul_nonneg h0 (show 0 ≤ y - m by grind)
  grind
theorem pos_abs {m : Rat} : ∀ {ks : List Kn} {t : Rat}, Asc ks → ks ≠ [] → firstT ks ≤ t → (∀ k ∈ ks, -m ≤ k.2 ∧ k.2 ≤ m) → -m ≤ posAt ks t ∧ posAt ks t ≤ m
  | [], _, _, h, _, _ => absurd rfl h
  | [k], _, _, _, _, h => h k List.mem_cons_self
  | k :: k' :: r, t, hA, _, h0, h => by
    have hk := hA.head
    have h0 : k.1 ≤ t := h0
    unfold posAt
    split
    · rename_i hc
      have hd : 0 < k'.1 - k.1 := by grind
      have e : (k'.2 - k.2) / (k'.1 - k.1) * (t - k.1) = (k'.2 - k.2) * ((t - k.1) / (k'.1 - k.1)) := by
        rw [Rat.div_def, Rat.div_def]
        grind
      have s0 : 0 ≤ (t - k.1) / (k'.1 - k.1) := (le_div hd).mpr (by grind)
      have s1 : (t - k.1) / (k'.1 - k.1) ≤ 1 := Rat.le_of_lt ((div_lt hd).mpr (by grind))
      have a := h k List.mem_cons_self
      have b := h k' (List.mem_cons_of_mem _ List.mem_cons_self)
      rw [e]
      exact ⟨mid_ge s0 s1 a.1 b.1, mid_le s0 s1 a.2 b.2⟩
    · exact pos_abs hA.tail (by simp) (show k'.1 ≤ t by grind) fun x hx => h x (List.mem_cons_of_mem _ hx)
theorem BQ.abs {n : Nat} {q : Rat} (h : BQ n q) : ∃ m : Int, m = 2 ^ n ∧ -(m : Rat) ≤ q ∧ q ≤ (m : Rat) := by
  obtain ⟨m, hm⟩ : ∃ m : Int, m = 2 ^ n := ⟨_, rfl⟩
  refine ⟨m, hm, ?_⟩
  have hn : q.num.natAbs < 2 ^ n := h.num
  have hn2 : (q.num.natAbs : Int) < m := by
    rw [hm]
    have := Int.ofNat_lt.mpr hn
    simpa using this
  have ex := num_div q
  have hd : (1 : Rat) ≤ ((q.den : Int) : Rat) := by
    have : ((1 : Int) : Rat) ≤ ((q.den : Int) : Rat) := Rat.intCast_le_intCast.mpr (by have := den_pos q; omega)
    exact this
  have e2 : q * ((q.den : Int) : Rat) = (q.num : Rat) := by
    conv => lhs; lhs; rw [ex]
    exact div_mul_self (by grind)
  have u1 : (q.num : Rat) ≤ (m : Rat) := Rat.intCast_le_intCast.mpr (by omega)
  have u2 : ((-m : Int) : Rat) ≤ (q.num : Rat) := Rat.intCast_le_intCast.mpr (by omega)
  rw [Rat.intCast_neg] at u2
  have m0 : (0 : Rat) ≤ (m : Rat) := by
    have : ((0 : Int) : Rat) ≤ (m : Rat) := Rat.intCast_le_intCast.mpr (by omega)
    exact this
  by_cases c : 0 ≤ q
  · have := Rat.mul_le_mul_of_nonneg_left hd c
    constructor <;> grind
  · have := Rat.mul_le_mul_of_nonneg_left hd (show 0 ≤ -q by grind)
    constructor <;> grind
theorem floor_abs {x : Rat} {l m : Int} (hl : 1 ≤ l) (m0 : 0 ≤ m) (h1 : -(m : Rat) ≤ x) (h2 : x ≤ (m : Rat)) : (x / (l : Rat)).floor.natAbs ≤ m.natAbs := by
  have hp := cast_pos hl
  have l1 : (1 : Rat) ≤ (l : Rat) := by
    have : ((1 : Int) : Rat) ≤ (l : Rat) := Rat.intCast_le_intCast.mpr hl
    exact this
  have mm : (0 : Rat) ≤ (m : Rat) := by
    have : ((0 : Int) : Rat) ≤ (m : Rat) := Rat.intCast_le_intCast.mpr m0
    exact this
  have ml := Rat.mul_le_mul_of_nonneg_left l1 mm
  have a : ((-m : Int) : Rat) ≤ x / (l : Rat) := (le_div hp).mpr (by rw [Rat.intCast_neg]; grind)
  have b : x / (l : Rat) < ((m + 1 : Int) : Rat) := (div_lt hp).mpr (by
    rw [Rat.intCast_add]
    have e1 : ((1 : Int) : Rat) = 1 := rfl
    rw [e1]
    grind)
  have a2 : -m ≤ (x / (l : Rat)).floor := Rat.le_floor_iff.mpr a
  have b2 : (x / (l : Rat)).floor < m + 1 := Rat.floor_lt_iff.mpr b
  omega
theorem B.of_le {n : Nat} {x m : Int} (h : x.natAbs ≤ m.natAbs) (hm : m = 2 ^ n) : B (n + 1) x := by
  show x.natAbs < 2 ^ (n + 1)
  rw [hm] at h
  have e : (2 ^ n : Int).natAbs = 2 ^ n := by
    rw [Int.natAbs_pow]
    rfl
  rw [e] at h
  have : 0 < 2 ^ n := Nat.pow_pos (by decide)
  rw [Nat.pow_succ]
  omega
/-- places stay within their knots -/
theorem posAt_abs {n : Nat} {ks : List Kn} {t : Rat} (hA : Asc ks) (hne : ks ≠ []) (hB : BKs n ks) (h0 : firstT ks ≤ t) {m : Int} (hm : m = 2 ^ n) : -(m : Rat) ≤ posAt ks t ∧ posAt ks t ≤ (m : Rat) :=
  pos_abs hA hne h0 fun k hk => by
    obtain ⟨m', e, h⟩ := (hB k hk).2.abs
    rw [e, ← hm] at h
    exact h
theorem gapIn_B {L : Option Int} {n : Nat} {x y : Rat} {m : Int} (hm : m = 2 ^ n) (hL : ∀ l, L = some l → 1 ≤ l) (hx : -(m : Rat) ≤ x ∧ x ≤ (m : Rat)) (hy : -(m : Rat) ≤ y ∧ y ≤ (m : Rat)) : B (n + 2) (lapsIn L (x - y)) := by
  have m0 : 0 ≤ m := by rw [hm]; exact Int.le_of_lt (Int.pow_pos (by decide))
  cases L with
  | none =>
    show B _ (if 0 ≤ x - y then (0 : Int) else -1)
    split
    · exact B.zero
    · exact (B.one (by omega)).neg
  | some l =>
    refine B.of_le (m := m + m) (floor_abs (m := m + m) (hL l rfl) (by omega) ?_ ?_) ?_
    · rw [Rat.intCast_add]; grind
    · rw [Rat.intCast_add]; grind
    · rw [hm, Int.pow_succ]; omega
theorem floorQ_abs {L : Option Int} {n : Nat} {x : Rat} (hL : ∀ l, L = some l → 1 ≤ l) (hx : BQ n x) : B (n + 1) (floorQ L x) := by
  cases L with
  | none => exact B.zero
  | some l =>
    obtain ⟨m, hm, h1, h2⟩ := hx.abs
    exact B.of_le (floor_abs (hL l rfl) (by rw [hm]; exact Int.le_of_lt (Int.pow_pos (by decide))) h1 h2) hm
end DL

namespace DL
open PySem PySem.Spec PyProof.Rows L2
/-! ### ranges between any ints -/
theorem turn_long {P : Program} {w : World} {K : PySem.W.Frag} {tg : Expr} (it : Addr) (lo : Int) (n : Nat) : Turn P w K tg (Itr lo n) [it] it (fun i h => IsLongIter h it (lo + (i : Nat) * 1) ((n : Int) - (i : Nat)) 1) where
  mem := by simp
  obj := fun i h st b hb => by
    have e : b = it := by simpa using hb
    subst e
    exact ⟨_, st, fun v z => by
      have z' : Data.fields _ = Data.cell v := z
      cases z'⟩
  keep := fun i h h' st k => k it (by simp) _ st
  item := by
    intro X hP hw hK hc i pins s σ H E I hf st hg
    subst hP hw hK
    obtain ⟨f0, f1, f2, f3, f4, f5⟩ := hf it (by simp)
    have W := Walks.longrange (prog := X.prog) (w := X.w) (I.ok.hd hc) it lo 1 n
    refine W.item i s _ _ hg st fun v h' tk hv st' kk => ?_
    obtain ⟨t, rfl⟩ := hv
    have I1 : Inv X pins σ H { s with heap := h', toks := tk } := I.turned (fun b o hb e => kk b o (by simpa using hb) e) f0 f1 f3 f4 f5
    refine ⟨_, rfl, go_of (s := { s with heap := h', toks := tk }) (n := "longrange_iterator") st' rfl rfl (by decide) ⟨.int (lo + i), H, I1, ⟨t, ?_⟩, ⟨rfl, rfl⟩, st', fun b hb => (hf b hb).1⟩⟩
    rw [Int.mul_one]
  done := by
    intro X hP hw hK hc i pins s σ H E I hf st hg
    subst hP hw hK
    obtain ⟨f0, f1, f2, f3, f4, f5⟩ := hf it (by simp)
    exact wpAny_pyNext_long_end (I.ok.hd hc) st (by have : n ≤ i := hg; omega) fun h' eb => ⟨rfl, I.turned (t' := s.toks) (fun b o hb e => eb b o hb e) f0 f1 f3 f4 f5⟩
  self := fun _ _ _ _ _ st h => wpAny_pyIter_longiter st h
section
variable {X : Cx} {tg : Expr}
theorem range_itA {pins : List (Addr × Obj)} {σ : L2.St} {H : Hp} {s : Shared} {R : It → Hp → Prop} {E : Value → Shared → Prop} {lo hi : Int} {t u v : Tok} {tk : Nat} (I : Inv X pins σ H s)
    (q : R (Itr lo (hi - lo).toNat) H) : wpAny (model X.prog X.w) X.A (pyIter (.ref s.heap.objs.size)) (PIE X pins σ tg R) E { s with heap := s.heap.push { cls := .type "range", data := .fields #[.int lo t, .int hi u, .int 1 v] }, toks := tk } := by
  have I1 : Inv X pins σ H { s with heap := s.heap.push { cls := .type "range", data := .fields #[.int lo t, .int hi u, .int 1 v] }, toks := tk } := I.kept fun b o e => Heap.get?_push_of_some _ e
  have e1 : lo + ((0 : Nat) : Int) * 1 = lo := by simp
  have e2 : (((hi - lo).toNat : Nat) : Int) - ((0 : Nat) : Int) = Builtin.Range.rangeSize lo hi 1 := by rw [rangeSize_one]; split <;> omega
  have fp : ∀ b ∈ [(s.heap.push { cls := .type "range", data := .fields #[.int lo t, .int hi u, .int 1 v] }).objs.size], b = (s.heap.push { cls := .type "range", data := .fields #[.int lo t, .int hi u, .int 1 v] }).objs.size := fun b hb => by simpa using hb
  cases hs : Builtin.Range.small lo hi 1 with
  | true =>
    refine wpAny_pyIter_range (IsRange.new ..) hs ?_
    refine ⟨(s.heap.push { cls := .type "range", data := .fields #[.int lo t, .int hi u, .int 1 v] }).objs.size, [(s.heap.push { cls := .type "range", data := .fields #[.int lo t, .int hi u, .int 1 v] }).objs.size], _, _, H, rfl,
      I1.kept (t' := tk) fun b o e => Heap.get?_push_of_some _ e, turn_range _ lo (hi - lo).toNat, ?_, fun b hb => ?_, q⟩
    · show IsRangeIter _ _ (lo + ((0 : Nat) : Int) * 1) ((((hi - lo).toNat : Nat) : Int) - ((0 : Nat) : Int)) 1
      rw [e1, e2]
      exact Heap.get?_push_size _ rfl
    · rw [fp b hb]
      exact I1.fpOk (Nat.le_refl _) (I1.hok.fresh (Nat.le_refl _))
  | false =>
    refine wpAny_pyIter_longrange (IsRange.new ..) hs ?_
    refine ⟨(s.heap.push { cls := .type "range", data := .fields #[.int lo t, .int hi u, .int 1 v] }).objs.size, [(s.heap.push { cls := .type "range", data := .fields #[.int lo t, .int hi u, .int 1 v] }).objs.size], _, _, H, rfl,
      I1.kept (t' := tk) fun b o e => Heap.get?_push_of_some _ e, turn_long _ lo (hi - lo).toNat, ?_, fun b hb => ?_, q⟩
    · show IsLongIter _ _ (lo + ((0 : Nat) : Int) * 1) ((((hi - lo).toNat : Nat) : Int) - ((0 : Nat) : Int)) 1
      rw [e1, e2]
      exact Heap.get?_push_size _ rfl
    · rw [fp b hb]
      exact I1.fpOk (Nat.le_refl _) (I1.hok.fresh (Nat.le_refl _))
def iRng2A (ta : TA) : TI := fun σ H R => ta σ H fun vs H1 => ∃ i j : Int, vs = [.int i, .int j] ∧ R (Itr i (j - i).toNat) H1
theorem pi_range2A {a b : Expr} {ta : TA} {p pos : Pos} (hg : Gl X "range") (hm : X.mg "range" = none) (ha : PA X [a, b] ta) (hs : starEach [a, b] X.env = [(false, eval a X.env), (false, eval b X.env)] := by rfl) (hs2 : starEach [b] X.env = [(false, eval b X.env)] := by rfl) :
    PI X tg (.Call (.Name "range" p) [a, b] [] pos) (iRng2A ta) := by
  refine ⟨fun pins s σ H R I h => ?_⟩
  refine Call_ (ld_blt I hg hm boot_range (PyProof.Rows.callWith_type1 (thn (ha.run pos pins s σ H _ I h) fun us s1 ⟨vs, H1, I1, r1, q1⟩ => ?_) (by rw [hs, hs2]) (by rw [hs2]; rfl)))
  obtain ⟨i, j, e, q⟩ := q1
  subst e
  cases r1 with
  | cons r rr =>
    cases rr with
    | cons r' rr =>
      cases rr
      obtain ⟨t, rfl⟩ := r
      obtain ⟨t', rfl⟩ := r'
      exact call_range_2 (range_itA I1 q)
end
theorem XI.rng2A {C : Cfg} {ds : DS} {M : Mem} {kl : List D → Mem → Prop} {t : TA} (h : XA C t ds M fun xs M1 => ∃ i j : Int, xs = [.int i, .int j] ∧ kl (rngD i (j - i).toNat) M1) : XI C (iRng2A t) ds M kl := fun F H σ s e c R g =>
  h F H σ s e c _ fun xs M1 vs F1 H1 n1 r1 h1 => by
    obtain ⟨i, j, rfl, q⟩ := h1
    cases r1 with
    | cons r1 r2 =>
      cases r2 with
      | cons r2 r3 =>
        cases r3
        cases r2
        cases r1
        exact ⟨i, j, rfl, g _ M1 _ F1 H1 n1 (items_rng i _) q⟩
/-! ### small helps -/
theorem keys_map {f : Str → D} (ns : List Str) : (ns.map fun n => ((kN n, f n) : Key × D)).map (fun e => keyD e.1) = ns.map D.str := by
  rw [List.map_map]
  rfl
theorem str_inj : ∀ a b : Str, D.str a = D.str b → a = b := fun a b h => by injection h
theorem dQ_inj' : ∀ a b : Rat, dQ a = dQ b → a = b := fun a b h => dQ_inj h
theorem bq0 {n : Nat} (h : 0 < n) : BQ n (0 : Rat) := ⟨B.zero, B.one h⟩
end DL

namespace DL
open PySem PySem.Spec PyProof.Rows L2
/-! ### dict(d): a copy -/
def rDictD : List V → Hp → VK → Prop := fun xs H Q => ∃ (a : Addr) (kvs : List (Key × V)), xs = [.ref a] ∧ Rd H a (.dK kvs) ∧ ∀ p, H p = none → Q (.ref p) (upd H p (.dK kvs))
theorem cr_dictD {X : Cx} : CallR X (.type "dict") rDictD := call_dictD
theorem XC.dictD {K : PySem.W.Frag} {M : Mem} {k : D → Mem → Prop} {y : D} {es : List (Key × D)} (hy : DgAt M y es) (h : ∀ p, p ∉ dom M → k (.raw p) ((p, .dct es) :: M)) : XC K rDictD [y] M k := fun F H vs s r Q g => by
  cases r with
  | cons r1 r2 =>
    cases r2
    obtain ⟨p, kvs, rfl, hs, q1⟩ := hy.get s r1
    refine ⟨p, kvs, rfl, hs, fun l hl => ?_⟩
    have n := Nxt.newM s (o := .dK kvs) (m := .dct es) hl ⟨_, rfl, q1⟩
    exact g _ _ _ _ _ n (.raw l) (h l (s.out hl))
end DL

namespace My
open PySem L2 DL PyProof.Rows
def topS (i : Nat) : Stmt := PySem.Challenge.pw_handedpast_k99_whole_twelve_loads_far.main.body.getD i (.Pass ⟨0, 0, 0, 0⟩)

abbrev s_is_whole : Stmt := topS 9
abbrev N_is_whole : List Str := ["value"]
theorem sc_is_whole : FnScope N_is_whole ["value"] (defScope s_is_whole) := ⟨rfl, rfl, rfl, by decide +kernel, rfl, by decide +kernel, by decide +kernel⟩

abbrev s_common_divisor : Stmt := topS 10
abbrev N_common_divisor : List Str := ["a", "b"]
theorem sc_common_divisor : FnScope N_common_divisor ["a", "b"] (defScope s_common_divisor) := ⟨rfl, rfl, rfl, by decide +kernel, rfl, by decide +kernel, by decide +kernel⟩

abbrev s_is_fraction : Stmt := topS 11
abbrev N_is_fraction : List Str := ["value"]
theorem sc_is_fraction : FnScope N_is_fraction ["value"] (defScope s_is_fraction) := ⟨rfl, rfl, rfl, by decide +kernel, rfl, by decide +kernel, by decide +kernel⟩

abbrev s_new_fraction : Stmt := topS 12
abbrev N_new_fraction : List Str := ["n", "d", "common"]
theorem sc_new_fraction : FnScope N_new_fraction ["n", "d"] (defScope s_new_fraction) := ⟨rfl, rfl, rfl, by decide +kernel, rfl, by decide +kernel, by decide +kernel⟩

abbrev s_sum_of : Stmt := topS 13
abbrev N_sum_of : List Str := ["a", "b"]
theorem sc_sum_of : FnScope N_sum_of ["a", "b"] (defScope s_sum_of) := ⟨rfl, rfl, rfl, by decide +kernel, rfl, by decide +kernel, by decide +kernel⟩

abbrev s_rest_of : Stmt := topS 14
abbrev N_rest_of : List Str := ["a", "b"]
theorem sc_rest_of : FnScope N_rest_of ["a", "b"] (defScope s_rest_of) := ⟨rfl, rfl, rfl, by decide +kernel, rfl, by decide +kernel, by decide +kernel⟩

abbrev s_product_of : Stmt := topS 15
abbrev N_product_of : List Str := ["a", "b"]
theorem sc_product_of : FnScope N_product_of ["a", "b"] (defScope s_product_of) := ⟨rfl, rfl, rfl, by decide +kernel, rfl, by decide +kernel, by decide +kernel⟩

abbrev s_share_of : Stmt := topS 16
abbrev N_share_of : List Str := ["a", "b"]
theorem sc_share_of : FnScope N_share_of ["a", "b"] (defScope s_share_of) := ⟨rfl, rfl, rfl, by decide +kernel, rfl, by decide +kernel, by decide +kernel⟩

abbrev s_order_of : Stmt := topS 17
abbrev N_order_of : List Str := ["a", "b", "gap"]
theorem sc_order_of : FnScope N_order_of ["a", "b"] (defScope s_order_of) := ⟨rfl, rfl, rfl, by decide +kernel, rfl, by decide +kernel, by decide +kernel⟩

abbrev s_is_less : Stmt := topS 18
abbrev N_is_less : List Str := ["a", "b"]
theorem sc_is_less : FnScope N_is_less ["a", "b"] (defScope s_is_less) := ⟨rfl, rfl, rfl, by decide +kernel, rfl, by decide +kernel, by decide +kernel⟩

abbrev s_floor_of : Stmt := topS 19
abbrev N_floor_of : List Str := ["a"]
theorem sc_floor_of : FnScope N_floor_of ["a"] (defScope s_floor_of) := ⟨rfl, rfl, rfl, by decide +kernel, rfl, by decide +kernel, by decide +kernel⟩

abbrev s_need_length : Stmt := topS 22
abbrev N_need_length : List Str := ["length"]
theorem sc_need_length : FnScope N_need_length ["length"] (defScope s_need_length) := ⟨rfl, rfl, rfl, by decide +kernel, rfl, by decide +kernel, by decide +kernel⟩

abbrev s_later_begin : Stmt := topS 23
abbrev N_later_begin : List Str := ["one", "other"]
theorem sc_later_begin : FnScope N_later_begin ["one", "other"] (defScope s_later_begin) := ⟨rfl, rfl, rfl, by decide +kernel, rfl, by decide +kernel, by decide +kernel⟩

abbrev s_need_times : Stmt := topS 24
abbrev N_need_times : List Str := ["one", "other", "since", "until"]
theorem sc_need_times : FnScope N_need_times ["one", "other", "since", "until"] (defScope s_need_times) := ⟨rfl, rfl, rfl, by decide +kernel, rfl, by decide +kernel, by decide +kernel⟩

abbrev s_gap_at : Stmt := topS 25
abbrev N_gap_at : List Str := ["one", "other", "t"]
theorem sc_gap_at : FnScope N_gap_at ["one", "other", "t"] (defScope s_gap_at) := ⟨rfl, rfl, rfl, by decide +kernel, rfl, by decide +kernel, by decide +kernel⟩

abbrev s_growth_at : Stmt := topS 26
abbrev N_growth_at : List Str := ["one", "other", "t"]
theorem sc_growth_at : FnScope N_growth_at ["one", "other", "t"] (defScope s_growth_at) := ⟨rfl, rfl, rfl, by decide +kernel, rfl, by decide +kernel, by decide +kernel⟩

abbrev s_laps_in : Stmt := topS 27
abbrev N_laps_in : List Str := ["gap", "length"]
theorem sc_laps_in : FnScope N_laps_in ["gap", "length"] (defScope s_laps_in) := ⟨rfl, rfl, rfl, by decide +kernel, rfl, by decide +kernel, by decide +kernel⟩

abbrev s_is_contact : Stmt := topS 28
abbrev N_is_contact : List Str := ["gap", "length"]
theorem sc_is_contact : FnScope N_is_contact ["gap", "length"] (defScope s_is_contact) := ⟨rfl, rfl, rfl, by decide +kernel, rfl, by decide +kernel, by decide +kernel⟩

abbrev s_next_turn : Stmt := topS 29
abbrev N_next_turn : List Str := ["one", "other", "t", "found", "table", "time", "place"]
theorem sc_next_turn : FnScope N_next_turn ["one", "other", "t"] (defScope s_next_turn) := ⟨rfl, rfl, rfl, by decide +kernel, rfl, by decide +kernel, by decide +kernel⟩

abbrev s_last_turn : Stmt := topS 30
abbrev N_last_turn : List Str := ["one", "other", "t", "found", "table", "time", "place"]
theorem sc_last_turn : FnScope N_last_turn ["one", "other", "t"] (defScope s_last_turn) := ⟨rfl, rfl, rfl, by decide +kernel, rfl, by decide +kernel, by decide +kernel⟩

abbrev s_side_before : Stmt := topS 31
abbrev N_side_before : List Str := ["one", "other", "t", "gap", "first", "earlier", "side"]
theorem sc_side_before : FnScope N_side_before ["one", "other", "t"] (defScope s_side_before) := ⟨rfl, rfl, rfl, by decide +kernel, rfl, by decide +kernel, by decide +kernel⟩

abbrev s_side_after : Stmt := topS 32
abbrev N_side_after : List Str := ["one", "other", "t", "growth"]
theorem sc_side_after : FnScope N_side_after ["one", "other", "t"] (defScope s_side_after) := ⟨rfl, rfl, rfl, by decide +kernel, rfl, by decide +kernel, by decide +kernel⟩

abbrev s_before_at : Stmt := topS 33
abbrev N_before_at : List Str := ["one", "other", "t", "length"]
theorem sc_before_at : FnScope N_before_at ["one", "other", "t", "length"] (defScope s_before_at) := ⟨rfl, rfl, rfl, by decide +kernel, rfl, by decide +kernel, by decide +kernel⟩

abbrev s_laps_before : Stmt := topS 34
abbrev N_laps_before : List Str := ["one", "other", "t", "length", "gap", "side"]
theorem sc_laps_before : FnScope N_laps_before ["one", "other", "t", "length"] (defScope s_laps_before) := ⟨rfl, rfl, rfl, by decide +kernel, rfl, by decide +kernel, by decide +kernel⟩

abbrev s_laps : Stmt := topS 35
abbrev N_laps : List Str := ["one", "other", "t", "length"]
theorem sc_laps : FnScope N_laps ["one", "other", "t", "length"] (defScope s_laps) := ⟨rfl, rfl, rfl, by decide +kernel, rfl, by decide +kernel, by decide +kernel⟩

abbrev s_is_knot : Stmt := topS 38
abbrev N_is_knot : List Str := ["value"]
theorem sc_is_knot : FnScope N_is_knot ["value"] (defScope s_is_knot) := ⟨rfl, rfl, rfl, by decide +kernel, rfl, by decide +kernel, by decide +kernel⟩

abbrev s_are_knots : Stmt := topS 39
abbrev N_are_knots : List Str := ["value", "knot", "at"]
theorem sc_are_knots : FnScope N_are_knots ["value"] (defScope s_are_knots) := ⟨rfl, rfl, rfl, by decide +kernel, rfl, by decide +kernel, by decide +kernel⟩

abbrev s_slopes_of : Stmt := topS 40
abbrev N_slopes_of : List Str := ["points", "found", "one", "other"]
theorem sc_slopes_of : FnScope N_slopes_of ["points"] (defScope s_slopes_of) := ⟨rfl, rfl, rfl, by decide +kernel, rfl, by decide +kernel, by decide +kernel⟩

abbrev s_turns_of : Stmt := topS 41
abbrev N_turns_of : List Str := ["points", "slopes", "at"]
theorem sc_turns_of : FnScope N_turns_of ["points"] (defScope s_turns_of) := ⟨rfl, rfl, rfl, by decide +kernel, rfl, by decide +kernel, by decide +kernel⟩

abbrev s_piece_on : Stmt := topS 42
abbrev N_piece_on : List Str := ["points", "t", "at"]
theorem sc_piece_on : FnScope N_piece_on ["points", "t"] (defScope s_piece_on) := ⟨rfl, rfl, rfl, by decide +kernel, rfl, by decide +kernel, by decide +kernel⟩

abbrev s_pace_on : Stmt := topS 43
abbrev N_pace_on : List Str := ["points", "t", "at", "one", "other"]
theorem sc_pace_on : FnScope N_pace_on ["points", "t"] (defScope s_pace_on) := ⟨rfl, rfl, rfl, by decide +kernel, rfl, by decide +kernel, by decide +kernel⟩

abbrev s_place_on : Stmt := topS 44
abbrev N_place_on : List Str := ["points", "t", "knot"]
theorem sc_place_on : FnScope N_place_on ["points", "t"] (defScope s_place_on) := ⟨rfl, rfl, rfl, by decide +kernel, rfl, by decide +kernel, by decide +kernel⟩

abbrev s_Timetable_init : Stmt := inClass (topS 45) 1
abbrev N_Timetable_init : List Str := ["self", "knots"]
theorem sc_Timetable_init : FnScope N_Timetable_init ["self", "knots"] (defScope s_Timetable_init) := ⟨rfl, rfl, rfl, by decide +kernel, rfl, by decide +kernel, by decide +kernel⟩

abbrev s_Timetable_begin : Stmt := inClass (topS 45) 5
abbrev N_Timetable_begin : List Str := ["self"]
theorem sc_Timetable_begin : FnScope N_Timetable_begin ["self"] (defScope s_Timetable_begin) := ⟨rfl, rfl, rfl, by decide +kernel, rfl, by decide +kernel, by decide +kernel⟩

abbrev s_Timetable_pace : Stmt := inClass (topS 45) 6
abbrev N_Timetable_pace : List Str := ["self", "t"]
theorem sc_Timetable_pace : FnScope N_Timetable_pace ["self", "t"] (defScope s_Timetable_pace) := ⟨rfl, rfl, rfl, by decide +kernel, rfl, by decide +kernel, by decide +kernel⟩

abbrev s_Timetable_at : Stmt := inClass (topS 45) 7
abbrev N_Timetable_at : List Str := ["self", "t"]
theorem sc_Timetable_at : FnScope N_Timetable_at ["self", "t"] (defScope s_Timetable_at) := ⟨rfl, rfl, rfl, by decide +kernel, rfl, by decide +kernel, by decide +kernel⟩

abbrev s_is_name : Stmt := topS 49
abbrev N_is_name : List Str := ["value", "sign"]
theorem sc_is_name : FnScope N_is_name ["value"] (defScope s_is_name) := ⟨rfl, rfl, rfl, by decide +kernel, rfl, by decide +kernel, by decide +kernel⟩

abbrev s_spot_of : Stmt := topS 50
abbrev N_spot_of : List Str := ["place", "length"]
theorem sc_spot_of : FnScope N_spot_of ["place", "length"] (defScope s_spot_of) := ⟨rfl, rfl, rfl, by decide +kernel, rfl, by decide +kernel, by decide +kernel⟩

abbrev s_need_tables : Stmt := topS 51
abbrev N_need_tables : List Str := ["tables", "length", "begins", "spots", "name", "table"]
theorem sc_need_tables : FnScope N_need_tables ["tables", "length"] (defScope s_need_tables) := ⟨rfl, rfl, rfl, by decide +kernel, rfl, by decide +kernel, by decide +kernel⟩

abbrev s_ordered : Stmt := topS 52
abbrev N_ordered : List Str := ["tables", "t", "length", "spots", "ranks", "name", "other", "side"]
theorem sc_ordered : FnScope N_ordered ["tables", "t", "length"] (defScope s_ordered) := ⟨rfl, rfl, rfl, by decide +kernel, rfl, by decide +kernel, by decide +kernel⟩

abbrev s_starting_order : Stmt := topS 53
abbrev N_starting_order : List Str := ["tables", "length", "table"]
theorem sc_starting_order : FnScope N_starting_order ["tables", "length"] (defScope s_starting_order) := ⟨rfl, rfl, rfl, by decide +kernel, rfl, by decide +kernel, by decide +kernel⟩

abbrev s_need_load : Stmt := topS 55
abbrev N_need_load : List Str := ["tables", "name"]
theorem sc_need_load : FnScope N_need_load ["tables", "name"] (defScope s_need_load) := ⟨rfl, rfl, rfl, by decide +kernel, rfl, by decide +kernel, by decide +kernel⟩

abbrev s_need_carrier : Stmt := topS 56
abbrev N_need_carrier : List Str := ["tables", "carrier"]
theorem sc_need_carrier : FnScope N_need_carrier ["tables", "carrier"] (defScope s_need_carrier) := ⟨rfl, rfl, rfl, by decide +kernel, rfl, by decide +kernel, by decide +kernel⟩

abbrev s_begin_of : Stmt := topS 57
abbrev N_begin_of : List Str := ["tables", "name"]
theorem sc_begin_of : FnScope N_begin_of ["tables"] (defScope s_begin_of) := ⟨rfl, rfl, rfl, by decide +kernel, rfl, by decide +kernel, by decide +kernel⟩

abbrev s_need_moment : Stmt := topS 58
abbrev N_need_moment : List Str := ["tables", "t"]
theorem sc_need_moment : FnScope N_need_moment ["tables", "t"] (defScope s_need_moment) := ⟨rfl, rfl, rfl, by decide +kernel, rfl, by decide +kernel, by decide +kernel⟩

abbrev s_growth_of : Stmt := topS 59
abbrev N_growth_of : List Str := ["tables", "name", "t", "length", "begin", "own", "total", "other", "now"]
theorem sc_growth_of : FnScope N_growth_of ["tables", "name", "t", "length"] (defScope s_growth_of) := ⟨rfl, rfl, rfl, by decide +kernel, rfl, by decide +kernel, by decide +kernel⟩

abbrev s_rank_at : Stmt := topS 60
abbrev N_rank_at : List Str := ["tables", "name", "t", "length"]
theorem sc_rank_at : FnScope N_rank_at ["tables", "name", "t", "length"] (defScope s_rank_at) := ⟨rfl, rfl, rfl, by decide +kernel, rfl, by decide +kernel, by decide +kernel⟩

abbrev s_carrier_of : Stmt := topS 61
abbrev N_carrier_of : List Str := ["tables", "name", "rank", "t", "length", "place", "whole"]
theorem sc_carrier_of : FnScope N_carrier_of ["tables", "name", "rank", "t", "length"] (defScope s_carrier_of) := ⟨rfl, rfl, rfl, by decide +kernel, rfl, by decide +kernel, by decide +kernel⟩

abbrev s_spot_floor : Stmt := topS 62
abbrev N_spot_floor : List Str := ["tables", "name", "length"]
theorem sc_spot_floor : FnScope N_spot_floor ["tables", "name", "length"] (defScope s_spot_floor) := ⟨rfl, rfl, rfl, by decide +kernel, rfl, by decide +kernel, by decide +kernel⟩

abbrev s_load_of : Stmt := topS 63
abbrev N_load_of : List Str := ["tables", "carrier", "t", "length", "at", "name", "holder", "place"]
theorem sc_load_of : FnScope N_load_of ["tables", "carrier", "t", "length"] (defScope s_load_of) := ⟨rfl, rfl, rfl, by decide +kernel, rfl, by decide +kernel, by decide +kernel⟩

abbrev s_rank_of : Stmt := topS 64
abbrev N_rank_of : List Str := ["tables", "name", "t", "length"]
theorem sc_rank_of : FnScope N_rank_of ["tables", "name", "t", "length"] (defScope s_rank_of) := ⟨rfl, rfl, rfl, by decide +kernel, rfl, by decide +kernel, by decide +kernel⟩

abbrev s_held_at : Stmt := topS 65
abbrev N_held_at : List Str := ["tables", "carrier", "t", "length"]
theorem sc_held_at : FnScope N_held_at ["tables", "carrier", "t", "length"] (defScope s_held_at) := ⟨rfl, rfl, rfl, by decide +kernel, rfl, by decide +kernel, by decide +kernel⟩

abbrev s_place_at : Stmt := topS 66
abbrev N_place_at : List Str := ["tables", "carrier", "t", "length"]
theorem sc_place_at : FnScope N_place_at ["tables", "carrier", "t", "length"] (defScope s_place_at) := ⟨rfl, rfl, rfl, by decide +kernel, rfl, by decide +kernel, by decide +kernel⟩

abbrev s_load_at : Stmt := topS 68
abbrev N_load_at : List Str := ["tables", "name", "t", "width", "length", "steps"]
theorem sc_load_at : FnScope N_load_at ["tables", "name", "t", "width", "length"] (defScope s_load_at) := ⟨rfl, rfl, rfl, by decide +kernel, rfl, by decide +kernel, by decide +kernel⟩

abbrev s_need_ring : Stmt := topS 70
abbrev N_need_ring : List Str := ["tables", "length"]
theorem sc_need_ring : FnScope N_need_ring ["tables", "length"] (defScope s_need_ring) := ⟨rfl, rfl, rfl, by decide +kernel, rfl, by decide +kernel, by decide +kernel⟩

abbrev s_moved_by : Stmt := topS 71
abbrev N_moved_by : List Str := ["tables", "carrier", "t", "length", "now"]
theorem sc_moved_by : FnScope N_moved_by ["tables", "carrier", "t", "length"] (defScope s_moved_by) := ⟨rfl, rfl, rfl, by decide +kernel, rfl, by decide +kernel, by decide +kernel⟩

abbrev s_displaced : Stmt := topS 72
abbrev N_displaced : List Str := ["tables", "carrier", "t", "length"]
theorem sc_displaced : FnScope N_displaced ["tables", "carrier", "t", "length"] (defScope s_displaced) := ⟨rfl, rfl, rfl, by decide +kernel, rfl, by decide +kernel, by decide +kernel⟩

abbrev s_L_begin : Stmt := topS 74
abbrev N_L_begin : List Str := ["script", "items", "item"]
theorem sc_L_begin : FnScope N_L_begin ["script"] (defScope s_L_begin) := ⟨rfl, rfl, rfl, by decide +kernel, rfl, by decide +kernel, by decide +kernel⟩

abbrev s_L_take : Stmt := topS 75
abbrev N_L_take : List Str := ["draw", "size", "found", "turn", "item", "mixed"]
theorem sc_L_take : FnScope N_L_take ["draw", "size"] (defScope s_L_take) := ⟨rfl, rfl, rfl, by decide +kernel, rfl, by decide +kernel, by decide +kernel⟩

abbrev s_L_pick : Stmt := topS 76
abbrev N_L_pick : List Str := ["draw", "some"]
theorem sc_L_pick : FnScope N_L_pick ["draw", "some"] (defScope s_L_pick) := ⟨rfl, rfl, rfl, by decide +kernel, rfl, by decide +kernel, by decide +kernel⟩

abbrev s_L_f : Stmt := topS 77
abbrev N_L_f : List Str := ["n", "d", "a", "b"]
theorem sc_L_f : FnScope N_L_f ["n", "d"] (defScope s_L_f) := ⟨rfl, rfl, rfl, by decide +kernel, rfl, by decide +kernel, by decide +kernel⟩

abbrev s_L_sum : Stmt := topS 78
abbrev N_L_sum : List Str := ["a", "b"]
theorem sc_L_sum : FnScope N_L_sum ["a", "b"] (defScope s_L_sum) := ⟨rfl, rfl, rfl, by decide +kernel, rfl, by decide +kernel, by decide +kernel⟩

abbrev s_L_rest : Stmt := topS 79
abbrev N_L_rest : List Str := ["a", "b"]
theorem sc_L_rest : FnScope N_L_rest ["a", "b"] (defScope s_L_rest) := ⟨rfl, rfl, rfl, by decide +kernel, rfl, by decide +kernel, by decide +kernel⟩

abbrev s_L_product : Stmt := topS 80
abbrev N_L_product : List Str := ["a", "b"]
theorem sc_L_product : FnScope N_L_product ["a", "b"] (defScope s_L_product) := ⟨rfl, rfl, rfl, by decide +kernel, rfl, by decide +kernel, by decide +kernel⟩

abbrev s_L_less : Stmt := topS 81
abbrev N_L_less : List Str := ["a", "b"]
theorem sc_L_less : FnScope N_L_less ["a", "b"] (defScope s_L_less) := ⟨rfl, rfl, rfl, by decide +kernel, rfl, by decide +kernel, by decide +kernel⟩

abbrev s_L_number : Stmt := topS 82
abbrev N_L_number : List Str := ["draw", "kind", "large"]
theorem sc_L_number : FnScope N_L_number ["draw"] (defScope s_L_number) := ⟨rfl, rfl, rfl, by decide +kernel, rfl, by decide +kernel, by decide +kernel⟩

abbrev s_L_part : Stmt := topS 83
abbrev N_L_part : List Str := ["draw", "n", "d"]
theorem sc_L_part : FnScope N_L_part ["draw"] (defScope s_L_part) := ⟨rfl, rfl, rfl, by decide +kernel, rfl, by decide +kernel, by decide +kernel⟩

abbrev s_L_step : Stmt := topS 84
abbrev N_L_step : List Str := ["draw", "n", "d"]
theorem sc_L_step : FnScope N_L_step ["draw"] (defScope s_L_step) := ⟨rfl, rfl, rfl, by decide +kernel, rfl, by decide +kernel, by decide +kernel⟩

abbrev s_L_names : Stmt := topS 85
abbrev N_L_names : List Str := ["draw", "many", "letters", "shift", "step", "front", "at"]
theorem sc_L_names : FnScope N_L_names ["draw", "many"] (defScope s_L_names) := ⟨rfl, rfl, rfl, by decide +kernel, rfl, by decide +kernel, by decide +kernel⟩

abbrev s_L_lot : Stmt := topS 86
abbrev N_L_lot : List Str := ["draw", "many", "size", "left", "found", "at"]
theorem sc_L_lot : FnScope N_L_lot ["draw", "many", "size"] (defScope s_L_lot) := ⟨rfl, rfl, rfl, by decide +kernel, rfl, by decide +kernel, by decide +kernel⟩

abbrev s_L_loads : Stmt := topS 87
abbrev N_L_loads : List Str := ["draw", "many", "ring", "far", "around", "unit", "begin", "step", "spots", "found", "name", "spot", "place", "knots", "at", "near", "rounds"]
theorem sc_L_loads : FnScope N_L_loads ["draw", "many", "ring", "far"] (defScope s_L_loads) := ⟨rfl, rfl, rfl, by decide +kernel, rfl, by decide +kernel, by decide +kernel⟩

abbrev s_L_at : Stmt := topS 88
abbrev N_L_at : List Str := ["knots", "time", "place", "one", "other", "run", "rise", "gone"]
theorem sc_L_at : FnScope N_L_at ["knots", "time"] (defScope s_L_at) := ⟨rfl, rfl, rfl, by decide +kernel, rfl, by decide +kernel, by decide +kernel⟩

abbrev s_L_floor : Stmt := topS 89
abbrev N_L_floor : List Str := ["place", "ring"]
theorem sc_L_floor : FnScope N_L_floor ["place", "ring"] (defScope s_L_floor) := ⟨rfl, rfl, rfl, by decide +kernel, rfl, by decide +kernel, by decide +kernel⟩

abbrev s_L_spot : Stmt := topS 90
abbrev N_L_spot : List Str := ["place", "ring"]
theorem sc_L_spot : FnScope N_L_spot ["place", "ring"] (defScope s_L_spot) := ⟨rfl, rfl, rfl, by decide +kernel, rfl, by decide +kernel, by decide +kernel⟩

abbrev s_L_tables : Stmt := topS 91
abbrev N_L_tables : List Str := ["loads", "name"]
theorem sc_L_tables : FnScope N_L_tables ["loads"] (defScope s_L_tables) := ⟨rfl, rfl, rfl, by decide +kernel, rfl, by decide +kernel, by decide +kernel⟩

abbrev s_L_time : Stmt := topS 92
abbrev N_L_time : List Str := ["draw", "loads", "begin", "step", "name"]
theorem sc_L_time : FnScope N_L_time ["draw", "loads"] (defScope s_L_time) := ⟨rfl, rfl, rfl, by decide +kernel, rfl, by decide +kernel, by decide +kernel⟩

abbrev s_L_ascending : Stmt := topS 93
abbrev N_L_ascending : List Str := ["some", "found", "one", "at"]
theorem sc_L_ascending : FnScope N_L_ascending ["some"] (defScope s_L_ascending) := ⟨rfl, rfl, rfl, by decide +kernel, rfl, by decide +kernel, by decide +kernel⟩

abbrev s_L_places : Stmt := topS 94
abbrev N_L_places : List Str := ["loads", "time", "ring", "here", "spots", "many", "total", "place", "name", "found", "at"]
theorem sc_L_places : FnScope N_L_places ["loads", "time", "ring"] (defScope s_L_places) := ⟨rfl, rfl, rfl, by decide +kernel, rfl, by decide +kernel, by decide +kernel⟩

abbrev s_L_longer : Stmt := topS 95
abbrev N_L_longer : List Str := ["draw", "loads", "found", "name", "knots"]
theorem sc_L_longer : FnScope N_L_longer ["draw", "loads"] (defScope s_L_longer) := ⟨rfl, rfl, rfl, by decide +kernel, rfl, by decide +kernel, by decide +kernel⟩

abbrev s_law : Stmt := topS 96
abbrev N_law : List Str := ["script", "draw", "ring", "loads", "tables", "begin", "turn", "time", "wide", "first", "places", "at", "name", "here", "rank", "steps", "gone"]
theorem sc_law : FnScope N_law ["script"] (defScope s_law) := ⟨rfl, rfl, rfl, by decide +kernel, rfl, by decide +kernel, by decide +kernel⟩

structure Txt (K : PySem.W.Frag) (mg : Str → Option Value) where
  is_whole : FnT K mg "is_whole" s_is_whole [] []
  common_divisor : FnT K mg "common_divisor" s_common_divisor [] []
  is_fraction : FnT K mg "is_fraction" s_is_fraction [] []
  new_fraction : FnT K mg "new_fraction" s_new_fraction [.int 1] []
  sum_of : FnT K mg "sum_of" s_sum_of [] []
  rest_of : FnT K mg "rest_of" s_rest_of [] []
  product_of : FnT K mg "product_of" s_product_of [] []
  share_of : FnT K mg "share_of" s_share_of [] []
  order_of : FnT K mg "order_of" s_order_of [] []
  is_less : FnT K mg "is_less" s_is_less [] []
  floor_of : FnT K mg "floor_of" s_floor_of [] []
  need_length : FnT K mg "need_length" s_need_length [] []
  later_begin : FnT K mg "later_begin" s_later_begin [] []
  need_times : FnT K mg "need_times" s_need_times [] []
  gap_at : FnT K mg "gap_at" s_gap_at [] []
  growth_at : FnT K mg "growth_at" s_growth_at [] []
  laps_in : FnT K mg "laps_in" s_laps_in [] []
  is_contact : FnT K mg "is_contact" s_is_contact [] []
  next_turn : FnT K mg "next_turn" s_next_turn [] []
  last_turn : FnT K mg "last_turn" s_last_turn [] []
  side_before : FnT K mg "side_before" s_side_before [] []
  side_after : FnT K mg "side_after" s_side_after [] []
  before_at : FnT K mg "before_at" s_before_at [] []
  laps_before : FnT K mg "laps_before" s_laps_before [] []
  laps : FnT K mg "laps" s_laps [] [("length", .non)]
  is_knot : FnT K mg "is_knot" s_is_knot [] []
  are_knots : FnT K mg "are_knots" s_are_knots [] []
  slopes_of : FnT K mg "slopes_of" s_slopes_of [] []
  turns_of : FnT K mg "turns_of" s_turns_of [] []
  piece_on : FnT K mg "piece_on" s_piece_on [] []
  pace_on : FnT K mg "pace_on" s_pace_on [] []
  place_on : FnT K mg "place_on" s_place_on [] []
  is_name : FnT K mg "is_name" s_is_name [] []
  spot_of : FnT K mg "spot_of" s_spot_of [] []
  need_tables : FnT K mg "need_tables" s_need_tables [] []
  ordered : FnT K mg "ordered" s_ordered [] []
  starting_order : FnT K mg "starting_order" s_starting_order [] []
  need_load : FnT K mg "need_load" s_need_load [] []
  need_carrier : FnT K mg "need_carrier" s_need_carrier [] []
  begin_of : FnT K mg "begin_of" s_begin_of [] []
  need_moment : FnT K mg "need_moment" s_need_moment [] []
  growth_of : FnT K mg "growth_of" s_growth_of [] []
  rank_at : FnT K mg "rank_at" s_rank_at [] []
  carrier_of : FnT K mg "carrier_of" s_carrier_of [] []
  spot_floor : FnT K mg "spot_floor" s_spot_floor [] []
  load_of : FnT K mg "load_of" s_load_of [] []
  rank_of : FnT K mg "rank_of" s_rank_of [] [("length", .non)]
  held_at : FnT K mg "held_at" s_held_at [] [("length", .non)]
  place_at : FnT K mg "place_at" s_place_at [] [("length", .non)]
  load_at : FnT K mg "load_at" s_load_at [] [("length", .non)]
  need_ring : FnT K mg "need_ring" s_need_ring [] []
  moved_by : FnT K mg "moved_by" s_moved_by [] []
  displaced : FnT K mg "displaced" s_displaced [] []
  L_begin : FnT K mg "_law_begin" s_L_begin [] []
  L_take : FnT K mg "_law_take" s_L_take [] []
  L_pick : FnT K mg "_law_pick" s_L_pick [] []
  L_f : FnT K mg "_law_f" s_L_f [] []
  L_sum : FnT K mg "_law_sum" s_L_sum [] []
  L_rest : FnT K mg "_law_rest" s_L_rest [] []
  L_product : FnT K mg "_law_product" s_L_product [] []
  L_less : FnT K mg "_law_less" s_L_less [] []
  L_number : FnT K mg "_law_number" s_L_number [] []
  L_part : FnT K mg "_law_part" s_L_part [] []
  L_step : FnT K mg "_law_step" s_L_step [] []
  L_names : FnT K mg "_law_names" s_L_names [] []
  L_lot : FnT K mg "_law_lot" s_L_lot [] []
  L_loads : FnT K mg "_law_loads" s_L_loads [] []
  L_at : FnT K mg "_law_at" s_L_at [] []
  L_floor : FnT K mg "_law_floor" s_L_floor [] []
  L_spot : FnT K mg "_law_spot" s_L_spot [] []
  L_tables : FnT K mg "_law_tables" s_L_tables [] []
  L_time : FnT K mg "_law_time" s_L_time [] []
  L_ascending : FnT K mg "_law_ascending" s_L_ascending [] []
  L_places : FnT K mg "_law_places" s_L_places [] []
  L_longer : FnT K mg "_law_longer" s_L_longer [] []
  law : FnT K mg "law" s_law [] []
  C_TrackError : Addr
  C_NoTable : Addr
  C_NoTime : Addr
  C_NoTrack : Addr
  C_NoName : Addr
  C_NoCarrier : Addr
  C_Timetable : Addr
  g_TrackError : mg "TrackError" = some (.ref C_TrackError)
  g_NoTable : mg "NoTable" = some (.ref C_NoTable)
  g_NoTime : mg "NoTime" = some (.ref C_NoTime)
  g_NoTrack : mg "NoTrack" = some (.ref C_NoTrack)
  g_NoName : mg "NoName" = some (.ref C_NoName)
  g_NoCarrier : mg "NoCarrier" = some (.ref C_NoCarrier)
  g_Timetable : mg "Timetable" = some (.ref C_Timetable)
  cl_Timetable : Cls K C_Timetable
  ty_Timetable : TyC K C_Timetable
  ki_Timetable : PySem.W.kitOne K (.ref C_Timetable) (.ref C_Timetable) = some true
  na_Timetable_points : NoAttr K C_Timetable "points"
  na_Timetable_turns : NoAttr K C_Timetable "turns"
  Timetable_init : MeT K C_Timetable "__init__" "Timetable.__init__" s_Timetable_init
  Timetable_begin : MeT K C_Timetable "begin" "Timetable.begin" s_Timetable_begin
  Timetable_pace : MeT K C_Timetable "pace" "Timetable.pace" s_Timetable_pace
  Timetable_at : MeT K C_Timetable "at" "Timetable.at" s_Timetable_at
  mk_Timetable : Mk K C_Timetable Timetable_init.a
  con_Timetable_MOST : ∃ u, Con K C_Timetable "MOST" (.int 40) u
  a_ZERO_pairs : Addr
  g_ZERO_pairs : mg "ZERO_pairs" = some (.ref a_ZERO_pairs)
  t_ZERO_pairs : ∀ F, Rep K F (.tup [.int 0, .int 1]) (.ref a_ZERO_pairs)
  a_ZERO_tables : Addr
  g_ZERO_tables : mg "ZERO_tables" = some (.ref a_ZERO_tables)
  t_ZERO_tables : ∀ F, Rep K F (.tup [.int 0, .int 1]) (.ref a_ZERO_tables)
  c_MOST_LOADS : ∃ u, mg "MOST_LOADS" = some u ∧ RelV (.int 12) u
  c_LETTERS : ∃ u, mg "LETTERS" = some u ∧ RelV (.str "abcdefghijklmnopqrstuvwxyz") u
  c_ordered : Addr
  P_ordered : Addr
  cd_ordered : ordered.fd.code = .ref c_ordered
  m_isinstance : mg "isinstance" = none
  m_int : mg "int" = none
  m_bool : mg "bool" = none
  m_abs : mg "abs" = none
  m_tuple : mg "tuple" = none
  m_len : mg "len" = none
  m_range : mg "range" = none
  m_list : mg "list" = none
  m_zip : mg "zip" = none
  m_str : mg "str" = none
  m_all : mg "all" = none
  m_dict : mg "dict" = none
  m_sorted : mg "sorted" = none
  m_min : mg "min" = none
  m_enumerate : mg "enumerate" = none
abbrev Tbs {K : PySem.W.Frag} {mg : Str → Option Value} (T : Txt K mg) (base : Heap) : Prop := LamX.TabB base mg T.c_ordered T.P_ordered
abbrev qlam : Str := ("ordered" : Str) ++ (".<locals>." : Str) ++ ("<lambda>" : Str)
section
variable {K : PySem.W.Frag} {mg : Str → Option Value}
theorem b_is_whole (T : Txt K mg) : Binds K T.is_whole.fd ["value"] [] := T.is_whole.F.bindsN fun _ _ _ _ _ _ us hl => match us, hl with | [_], _ => rfl
theorem b_common_divisor (T : Txt K mg) : Binds K T.common_divisor.fd ["a", "b"] [] := T.common_divisor.F.bindsN fun _ _ _ _ _ _ us hl => match us, hl with | [_, _], _ => rfl
theorem b_is_fraction (T : Txt K mg) : Binds K T.is_fraction.fd ["value"] [] := T.is_fraction.F.bindsN fun _ _ _ _ _ _ us hl => match us, hl with | [_], _ => rfl
theorem b_new_fraction (T : Txt K mg) : Binds K T.new_fraction.fd ["n", "d"] [] := by
  obtain ⟨ds, hv, hb⟩ := T.new_fraction.F.binds1 (ps := ["n", "d"]) 2 1 (by decide) (by decide) fun _ _ _ _ _ _ _ us its h1 h2 => match us, its, h1, h2 with | [_, _], [_], _, _ => ⟨_, rfl, rfl⟩
  cases hv
  exact hb
theorem b_sum_of (T : Txt K mg) : Binds K T.sum_of.fd ["a", "b"] [] := T.sum_of.F.bindsN fun _ _ _ _ _ _ us hl => match us, hl with | [_, _], _ => rfl
theorem b_rest_of (T : Txt K mg) : Binds K T.rest_of.fd ["a", "b"] [] := T.rest_of.F.bindsN fun _ _ _ _ _ _ us hl => match us, hl with | [_, _], _ => rfl
theorem b_product_of (T : Txt K mg) : Binds K T.product_of.fd ["a", "b"] [] := T.product_of.F.bindsN fun _ _ _ _ _ _ us hl => match us, hl with | [_, _], _ => rfl
theorem b_share_of (T : Txt K mg) : Binds K T.share_of.fd ["a", "b"] [] := T.share_of.F.bindsN fun _ _ _ _ _ _ us hl => match us, hl with | [_, _], _ => rfl
theorem b_order_of (T : Txt K mg) : Binds K T.order_of.fd ["a", "b"] [] := T.order_of.F.bindsN fun _ _ _ _ _ _ us hl => match us, hl with | [_, _], _ => rfl
theorem b_is_less (T : Txt K mg) : Binds K T.is_less.fd ["a", "b"] [] := T.is_less.F.bindsN fun _ _ _ _ _ _ us hl => match us, hl with | [_, _], _ => rfl
theorem b_floor_of (T : Txt K mg) : Binds K T.floor_of.fd ["a"] [] := T.floor_of.F.bindsN fun _ _ _ _ _ _ us hl => match us, hl with | [_], _ => rfl
theorem b_need_length (T : Txt K mg) : Binds K T.need_length.fd ["length"] [] := T.need_length.F.bindsN fun _ _ _ _ _ _ us hl => match us, hl with | [_], _ => rfl
theorem b_later_begin (T : Txt K mg) : Binds K T.later_begin.fd ["one", "other"] [] := T.later_begin.F.bindsN fun _ _ _ _ _ _ us hl => match us, hl with | [_, _], _ => rfl
theorem b_need_times (T : Txt K mg) : Binds K T.need_times.fd ["one", "other", "since", "until"] [] := T.need_times.F.bindsN fun _ _ _ _ _ _ us hl => match us, hl with | [_, _, _, _], _ => rfl
theorem b_gap_at (T : Txt K mg) : Binds K T.gap_at.fd ["one", "other", "t"] [] := T.gap_at.F.bindsN fun _ _ _ _ _ _ us hl => match us, hl with | [_, _, _], _ => rfl
theorem b_growth_at (T : Txt K mg) : Binds K T.growth_at.fd ["one", "other", "t"] [] := T.growth_at.F.bindsN fun _ _ _ _ _ _ us hl => match us, hl with | [_, _, _], _ => rfl
theorem b_laps_in (T : Txt K mg) : Binds K T.laps_in.fd ["gap", "length"] [] := T.laps_in.F.bindsN fun _ _ _ _ _ _ us hl => match us, hl with | [_, _], _ => rfl
theorem b_is_contact (T : Txt K mg) : Binds K T.is_contact.fd ["gap", "length"] [] := T.is_contact.F.bindsN fun _ _ _ _ _ _ us hl => match us, hl with | [_, _], _ => rfl
theorem b_next_turn (T : Txt K mg) : Binds K T.next_turn.fd ["one", "other", "t"] [] := T.next_turn.F.bindsN fun _ _ _ _ _ _ us hl => match us, hl with | [_, _, _], _ => rfl
theorem b_last_turn (T : Txt K mg) : Binds K T.last_turn.fd ["one", "other", "t"] [] := T.last_turn.F.bindsN fun _ _ _ _ _ _ us hl => match us, hl with | [_, _, _], _ => rfl
theorem b_side_before (T : Txt K mg) : Binds K T.side_before.fd ["one", "other", "t"] [] := T.side_before.F.bindsN fun _ _ _ _ _ _ us hl => match us, hl with | [_, _, _], _ => rfl
theorem b_side_after (T : Txt K mg) : Binds K T.side_after.fd ["one", "other", "t"] [] := T.side_after.F.bindsN fun _ _ _ _ _ _ us hl => match us, hl with | [_, _, _], _ => rfl
theorem b_before_at (T : Txt K mg) : Binds K T.before_at.fd ["one", "other", "t", "length"] [] := T.before_at.F.bindsN fun _ _ _ _ _ _ us hl => match us, hl with | [_, _, _, _], _ => rfl
theorem b_laps_before (T : Txt K mg) : Binds K T.laps_before.fd ["one", "other", "t", "length"] [] := T.laps_before.F.bindsN fun _ _ _ _ _ _ us hl => match us, hl with | [_, _, _, _], _ => rfl
theorem b_is_knot (T : Txt K mg) : Binds K T.is_knot.fd ["value"] [] := T.is_knot.F.bindsN fun _ _ _ _ _ _ us hl => match us, hl with | [_], _ => rfl
theorem b_are_knots (T : Txt K mg) : Binds K T.are_knots.fd ["value"] [] := T.are_knots.F.bindsN fun _ _ _ _ _ _ us hl => match us, hl with | [_], _ => rfl
theorem b_slopes_of (T : Txt K mg) : Binds K T.slopes_of.fd ["points"] [] := T.slopes_of.F.bindsN fun _ _ _ _ _ _ us hl => match us, hl with | [_], _ => rfl
theorem b_turns_of (T : Txt K mg) : Binds K T.turns_of.fd ["points"] [] := T.turns_of.F.bindsN fun _ _ _ _ _ _ us hl => match us, hl with | [_], _ => rfl
theorem b_piece_on (T : Txt K mg) : Binds K T.piece_on.fd ["points", "t"] [] := T.piece_on.F.bindsN fun _ _ _ _ _ _ us hl => match us, hl with | [_, _], _ => rfl
theorem b_pace_on (T : Txt K mg) : Binds K T.pace_on.fd ["points", "t"] [] := T.pace_on.F.bindsN fun _ _ _ _ _ _ us hl => match us, hl with | [_, _], _ => rfl
theorem b_place_on (T : Txt K mg) : Binds K T.place_on.fd ["points", "t"] [] := T.place_on.F.bindsN fun _ _ _ _ _ _ us hl => match us, hl with | [_, _], _ => rfl
theorem b_Timetable_init (T : Txt K mg) : Binds K T.Timetable_init.fd ["self", "knots"] [] := T.Timetable_init.F.bindsN fun _ _ _ _ _ _ us hl => match us, hl with | [_, _], _ => rfl
theorem b_Timetable_begin (T : Txt K mg) : Binds K T.Timetable_begin.fd ["self"] [] := T.Timetable_begin.F.bindsN fun _ _ _ _ _ _ us hl => match us, hl with | [_], _ => rfl
theorem b_Timetable_pace (T : Txt K mg) : Binds K T.Timetable_pace.fd ["self", "t"] [] := T.Timetable_pace.F.bindsN fun _ _ _ _ _ _ us hl => match us, hl with | [_, _], _ => rfl
theorem b_Timetable_at (T : Txt K mg) : Binds K T.Timetable_at.fd ["self", "t"] [] := T.Timetable_at.F.bindsN fun _ _ _ _ _ _ us hl => match us, hl with | [_, _], _ => rfl
theorem b_is_name (T : Txt K mg) : Binds K T.is_name.fd ["value"] [] := T.is_name.F.bindsN fun _ _ _ _ _ _ us hl => match us, hl with | [_], _ => rfl
theorem b_spot_of (T : Txt K mg) : Binds K T.spot_of.fd ["place", "length"] [] := T.spot_of.F.bindsN fun _ _ _ _ _ _ us hl => match us, hl with | [_, _], _ => rfl
theorem b_need_tables (T : Txt K mg) : Binds K T.need_tables.fd ["tables", "length"] [] := T.need_tables.F.bindsN fun _ _ _ _ _ _ us hl => match us, hl with | [_, _], _ => rfl
theorem b_ordered (T : Txt K mg) : Binds K T.ordered.fd ["tables", "t", "length"] [] := T.ordered.F.bindsN fun _ _ _ _ _ _ us hl => match us, hl with | [_, _, _], _ => rfl
theorem b_starting_order (T : Txt K mg) : Binds K T.starting_order.fd ["tables", "length"] [] := T.starting_order.F.bindsN fun _ _ _ _ _ _ us hl => match us, hl with | [_, _], _ => rfl
theorem b_need_load (T : Txt K mg) : Binds K T.need_load.fd ["tables", "name"] [] := T.need_load.F.bindsN fun _ _ _ _ _ _ us hl => match us, hl with | [_, _], _ => rfl
theorem b_need_carrier (T : Txt K mg) : Binds K T.need_carrier.fd ["tables", "carrier"] [] := T.need_carrier.F.bindsN fun _ _ _ _ _ _ us hl => match us, hl with | [_, _], _ => rfl
theorem b_begin_of (T : Txt K mg) : Binds K T.begin_of.fd ["tables"] [] := T.begin_of.F.bindsN fun _ _ _ _ _ _ us hl => match us, hl with | [_], _ => rfl
theorem b_need_moment (T : Txt K mg) : Binds K T.need_moment.fd ["tables", "t"] [] := T.need_moment.F.bindsN fun _ _ _ _ _ _ us hl => match us, hl with | [_, _], _ => rfl
theorem b_growth_of (T : Txt K mg) : Binds K T.growth_of.fd ["tables", "name", "t", "length"] [] := T.growth_of.F.bindsN fun _ _ _ _ _ _ us hl => match us, hl with | [_, _, _, _], _ => rfl
theorem b_rank_at (T : Txt K mg) : Binds K T.rank_at.fd ["tables", "name", "t", "length"] [] := T.rank_at.F.bindsN fun _ _ _ _ _ _ us hl => match us, hl with | [_, _, _, _], _ => rfl
theorem b_carrier_of (T : Txt K mg) : Binds K T.carrier_of.fd ["tables", "name", "rank", "t", "length"] [] := T.carrier_of.F.bindsN fun _ _ _ _ _ _ us hl => match us, hl with | [_, _, _, _, _], _ => rfl
theorem b_spot_floor (T : Txt K mg) : Binds K T.spot_floor.fd ["tables", "name", "length"] [] := T.spot_floor.F.bindsN fun _ _ _ _ _ _ us hl => match us, hl with | [_, _, _], _ => rfl
theorem b_load_of (T : Txt K mg) : Binds K T.load_of.fd ["tables", "carrier", "t", "length"] [] := T.load_of.F.bindsN fun _ _ _ _ _ _ us hl => match us, hl with | [_, _, _, _], _ => rfl
theorem b_need_ring (T : Txt K mg) : Binds K T.need_ring.fd ["tables", "length"] [] := T.need_ring.F.bindsN fun _ _ _ _ _ _ us hl => match us, hl with | [_, _], _ => rfl
theorem b_moved_by (T : Txt K mg) : Binds K T.moved_by.fd ["tables", "carrier", "t", "length"] [] := T.moved_by.F.bindsN fun _ _ _ _ _ _ us hl => match us, hl with | [_, _, _, _], _ => rfl
theorem b_displaced (T : Txt K mg) : Binds K T.displaced.fd ["tables", "carrier", "t", "length"] [] := T.displaced.F.bindsN fun _ _ _ _ _ _ us hl => match us, hl with | [_, _, _, _], _ => rfl
theorem b_L_begin (T : Txt K mg) : Binds K T.L_begin.fd ["script"] [] := T.L_begin.F.bindsN fun _ _ _ _ _ _ us hl => match us, hl with | [_], _ => rfl
theorem b_L_take (T : Txt K mg) : Binds K T.L_take.fd ["draw", "size"] [] := T.L_take.F.bindsN fun _ _ _ _ _ _ us hl => match us, hl with | [_, _], _ => rfl
theorem b_L_pick (T : Txt K mg) : Binds K T.L_pick.fd ["draw", "some"] [] := T.L_pick.F.bindsN fun _ _ _ _ _ _ us hl => match us, hl with | [_, _], _ => rfl
theorem b_L_f (T : Txt K mg) : Binds K T.L_f.fd ["n", "d"] [] := T.L_f.F.bindsN fun _ _ _ _ _ _ us hl => match us, hl with | [_, _], _ => rfl
theorem b_L_sum (T : Txt K mg) : Binds K T.L_sum.fd ["a", "b"] [] := T.L_sum.F.bindsN fun _ _ _ _ _ _ us hl => match us, hl with | [_, _], _ => rfl
theorem b_L_rest (T : Txt K mg) : Binds K T.L_rest.fd ["a", "b"] [] := T.L_rest.F.bindsN fun _ _ _ _ _ _ us hl => match us, hl with | [_, _], _ => rfl
theorem b_L_product (T : Txt K mg) : Binds K T.L_product.fd ["a", "b"] [] := T.L_product.F.bindsN fun _ _ _ _ _ _ us hl => match us, hl with | [_, _], _ => rfl
theorem b_L_less (T : Txt K mg) : Binds K T.L_less.fd ["a", "b"] [] := T.L_less.F.bindsN fun _ _ _ _ _ _ us hl => match us, hl with | [_, _], _ => rfl
theorem b_L_number (T : Txt K mg) : Binds K T.L_number.fd ["draw"] [] := T.L_number.F.bindsN fun _ _ _ _ _ _ us hl => match us, hl with | [_], _ => rfl
theorem b_L_part (T : Txt K mg) : Binds K T.L_part.fd ["draw"] [] := T.L_part.F.bindsN fun _ _ _ _ _ _ us hl => match us, hl with | [_], _ => rfl
theorem b_L_step (T : Txt K mg) : Binds K T.L_step.fd ["draw"] [] := T.L_step.F.bindsN fun _ _ _ _ _ _ us hl => match us, hl with | [_], _ => rfl
theorem b_L_names (T : Txt K mg) : Binds K T.L_names.fd ["draw", "many"] [] := T.L_names.F.bindsN fun _ _ _ _ _ _ us hl => match us, hl with | [_, _], _ => rfl
theorem b_L_lot (T : Txt K mg) : Binds K T.L_lot.fd ["draw", "many", "size"] [] := T.L_lot.F.bindsN fun _ _ _ _ _ _ us hl => match us, hl with | [_, _, _], _ => rfl
theorem b_L_loads (T : Txt K mg) : Binds K T.L_loads.fd ["draw", "many", "ring", "far"] [] := T.L_loads.F.bindsN fun _ _ _ _ _ _ us hl => match us, hl with | [_, _, _, _], _ => rfl
theorem b_L_at (T : Txt K mg) : Binds K T.L_at.fd ["knots", "time"] [] := T.L_at.F.bindsN fun _ _ _ _ _ _ us hl => match us, hl with | [_, _], _ => rfl
theorem b_L_floor (T : Txt K mg) : Binds K T.L_floor.fd ["place", "ring"] [] := T.L_floor.F.bindsN fun _ _ _ _ _ _ us hl => match us, hl with | [_, _], _ => rfl
theorem b_L_spot (T : Txt K mg) : Binds K T.L_spot.fd ["place", "ring"] [] := T.L_spot.F.bindsN fun _ _ _ _ _ _ us hl => match us, hl with | [_, _], _ => rfl
theorem b_L_tables (T : Txt K mg) : Binds K T.L_tables.fd ["loads"] [] := T.L_tables.F.bindsN fun _ _ _ _ _ _ us hl => match us, hl with | [_], _ => rfl
theorem b_L_time (T : Txt K mg) : Binds K T.L_time.fd ["draw", "loads"] [] := T.L_time.F.bindsN fun _ _ _ _ _ _ us hl => match us, hl with | [_, _], _ => rfl
theorem b_L_ascending (T : Txt K mg) : Binds K T.L_ascending.fd ["some"] [] := T.L_ascending.F.bindsN fun _ _ _ _ _ _ us hl => match us, hl with | [_], _ => rfl
theorem b_L_places (T : Txt K mg) : Binds K T.L_places.fd ["loads", "time", "ring"] [] := T.L_places.F.bindsN fun _ _ _ _ _ _ us hl => match us, hl with | [_, _, _], _ => rfl
theorem b_L_longer (T : Txt K mg) : Binds K T.L_longer.fd ["draw", "loads"] [] := T.L_longer.F.bindsN fun _ _ _ _ _ _ us hl => match us, hl with | [_, _], _ => rfl
theorem b_law (T : Txt K mg) : Binds K T.law.fd ["script"] [] := T.law.F.bindsN fun _ _ _ _ _ _ us hl => match us, hl with | [_], _ => rfl
theorem bd_new_fraction_1 (T : Txt K mg) : ∃ ds, Vals ([.int 1].drop 0) ds ∧ Binds K T.new_fraction.fd ["n", "d"] ds := T.new_fraction.F.binds1 (ps := ["n", "d"]) 1 0 (by decide) (by decide) fun _ _ _ _ _ _ _ us its h1 h2 => match us, its, h1, h2 with | [_], [_], _, _ => ⟨_, rfl, rfl⟩
theorem bk_laps_3_length (T : Txt K mg) : KBn K T.laps.fd ["one", "other", "t", "length"] 3 ["length"] (fun us ws => us ++ ws) (fun us ws => us ++ ws) := kbnN T.laps.F fun _ _ _ _ _ _ us ws h1 h2 => match us, ws, h1, h2 with | [_, _, _], [_], _, _ => rfl
theorem bk_held_at_3_length (T : Txt K mg) : KBn K T.held_at.fd ["tables", "carrier", "t", "length"] 3 ["length"] (fun us ws => us ++ ws) (fun us ws => us ++ ws) := kbnN T.held_at.F fun _ _ _ _ _ _ us ws h1 h2 => match us, ws, h1, h2 with | [_, _, _], [_], _, _ => rfl
theorem bk_place_at_3_length (T : Txt K mg) : KBn K T.place_at.fd ["tables", "carrier", "t", "length"] 3 ["length"] (fun us ws => us ++ ws) (fun us ws => us ++ ws) := kbnN T.place_at.F fun _ _ _ _ _ _ us ws h1 h2 => match us, ws, h1, h2 with | [_, _, _], [_], _, _ => rfl
theorem bk_rank_of_3_length (T : Txt K mg) : KBn K T.rank_of.fd ["tables", "name", "t", "length"] 3 ["length"] (fun us ws => us ++ ws) (fun us ws => us ++ ws) := kbnN T.rank_of.F fun _ _ _ _ _ _ us ws h1 h2 => match us, ws, h1, h2 with | [_, _, _], [_], _, _ => rfl
theorem bk_load_at_4_length (T : Txt K mg) : KBn K T.load_at.fd ["tables", "name", "t", "width", "length"] 4 ["length"] (fun us ws => us ++ ws) (fun us ws => us ++ ws) := kbnN T.load_at.F fun _ _ _ _ _ _ us ws h1 h2 => match us, ws, h1, h2 with | [_, _, _, _], [_], _, _ => rfl
end

end My
namespace My
open PySem L2 DL PyProof.Rows
theorem idS {C : Cfg} {t : TS} {ds : DS} {M : Mem} {P : Post} (h : XS C t ds M P) : XS C t ds M P := h
theorem idE {C : Cfg} {t : TE} {ds : DS} {M : Mem} {k : D → Mem → Prop} (h : DL.XE C t ds M k) : DL.XE C t ds M k := h
theorem idT {C : Cfg} {t : TT} {ds : DS} {M : Mem} {k : Bool → Mem → Prop} (h : XT C t ds M k) : XT C t ds M k := h
theorem idA {C : Cfg} {t : TA} {ds : DS} {M : Mem} {k : List D → Mem → Prop} (h : XA C t ds M k) : XA C t ds M k := h
theorem idR {K : PySem.W.Frag} {r : R2} {x y : D} {M : Mem} {k : D → Mem → Prop} (h : XR K r x y M k) : XR K r x y M k := h
theorem idG {C : Cfg} {g : TG} {x : D} {ds : DS} {M : Mem} {js : List Nat} {k : DS → Mem → Prop} (h : XG C g x ds M js k) : XG C g x ds M js k := h
theorem idGs {C : Cfg} {g : TGs} {x : List D} {ds : DS} {M : Mem} {js : List Nat} {k : DS → Mem → Prop} (h : XGs C g x ds M js k) : XGs C g x ds M js k := h
theorem idO {C : Cfg} {g : TO} {ds : DS} {M : Mem} {k : Option Int → Mem → Prop} (h : XO C g ds M k) : XO C g ds M k := h
theorem pickT {A B : Prop} {b : Bool} (hb : b = true) (h : A) : (b = true → A) ∧ (b = false → B) := ⟨fun _ => h, fun z => by rw [hb] at z; cases z⟩
theorem pickF {A B : Prop} {b : Bool} (hb : b = false) (h : B) : (b = true → A) ∧ (b = false → B) := ⟨fun z => (by rw [hb] at z; cases z), fun _ => h⟩
theorem ex1 {A : Bool → Prop} {b : Bool} (h1 : A b) : ∃ c, D.bl b = .bl c ∧ A c := ⟨b, rfl, h1⟩
local macro_rules | `(tactic| walk_at "go") => `(tactic| repeat (first
  | ((with_reducible refine idE ?_); first
    | ((with_reducible apply XE.var); · exact rfl)
    | (with_reducible first
      | refine XE.op ?_
      | refine XE.int ?_
      | refine XE.str ?_
      | refine XE.ite ?_
      | refine XE.cb ?_
      | refine XE.tup ?_
      | refine XE.bl ?_
      | refine XE.non ?_
      | refine XE.ty ?_
      | refine XE.un ?_
      | refine XE.andV ?_
      | refine XE.orV ?_
      | refine XE.notV ?_
      | refine XE.slice ?_
      | refine XE.chain ?_))
  | ((with_reducible refine idA ?_); with_reducible first
      | refine XA.nil ?_
      | refine XA.cons ?_)
  | ((with_reducible refine idR ?_); first
      | (with_reducible first
        | refine XR.add_int ?_
        | refine XR.eq_int ?_
        | refine XR.ne_int ?_
        | refine XR.i0 ?_
        | refine XR.b0 ?_
        | refine XR.isN ?_
        | refine XR.ntN ?_)
      | refine XR.ix_tup rfl ?_
      | refine XR.ix_lst (by first | exact LsAt.lst | exact LsAt.raw At.hd) rfl ?_)
  | ((with_reducible refine idS ?_); with_reducible first
      | refine XS.seq ?_
      | refine XS.asg ?_
      | refine XS.ret ?_
      | refine XS.ifs ?_
      | refine XS.next ?_
      | refine XS.drop ?_
      | refine XS.par ?_)
  | ((with_reducible refine idT ?_); with_reducible first
      | refine XT.tst ?_
      | refine XT.bool ?_
      | refine XT.and ?_
      | refine XT.or ?_
      | refine XT.not ?_)
  | with_reducible refine ex1 ?_
  | refine pickF rfl ?_
  | refine pickT rfl ?_
  | ((with_reducible refine idO ?_); with_reducible first
      | refine XO.none ?_
      | refine XO.some ?_)
  | ((with_reducible refine idGs ?_); with_reducible first
      | refine XGs.nil ?_
      | refine XGs.cons ?_)
  | ((with_reducible refine idG ?_); with_reducible first
      | refine XG.name (by simp) ?_
      | refine XG.tup rfl ?_)
  | with_reducible refine XC.abs ?_
  | with_reducible refine XU.neg ?_
  | refine ⟨_, _, rfl, ?_⟩
  | refine ⟨_, rfl, ?_⟩
  | refine ⟨show (_ : Nat) + 1 ≤ 16000000 by simp only [List.length_cons, List.length_nil] <;> decide, ?_⟩
  | refine ⟨show (0 : Nat) ≤ 16000000 by decide, ?_⟩
  | dsimp only))
local macro_rules | `(tactic| walk_at "sp") => `(tactic| first | refine ⟨[], _, rfl, rfl, ?_⟩ | refine ⟨rfl, ?_⟩)

/-- isinstance against a built-in type -/
def isTyB (a n : String) : Bool := a == n || (a == "bool" && n == "int")
theorem kit_tab : ∀ a ∈ ["NoneType", "bool", "int", "str", "tuple", "list", "dict"], ∀ n ∈ ["int", "bool", "str", "tuple", "list", "dict"], kitB a n = some (isTyB a n) := by decide +kernel
def D.isT (d : D) (n : String) : Bool := match d.tyN with
  | some a => isTyB a n
  | none => false
theorem tyN_in {d : D} {a : String} (h : d.tyN = some a) : a ∈ ["NoneType", "bool", "int", "str", "tuple", "list", "dict"] := by
  cases d <;> simp [D.tyN] at h <;> subst h <;> simp
theorem XC.isT {K : PySem.W.Frag} {M : Mem} {k : D → Mem → Prop} {d : D} {n : String} (h : d.tyN.isSome = true) (hn : n ∈ ["int", "bool", "str", "tuple", "list", "dict"]) (q : k (.bl (D.isT d n)) M) : XC K (rIsi K) [d, .ty n] M k := by
  obtain ⟨a, ha⟩ := Option.isSome_iff_exists.mp h
  refine XC.isi_ty ha (kit_tab a (tyN_in ha) n hn) ?_
  unfold D.isT at q
  rw [ha] at q
  exact q
def D.isW (d : D) : Bool := D.isT d "int" && !D.isT d "bool"
def spl_is_whole : PSp := fun ds k _ => ∃ d : D, ds = [d] ∧ d.tyN.isSome = true ∧ k (.bl (D.isW d))
theorem mo_is_whole : MonoP spl_is_whole := fun _ _ _ _ _ hk _ ⟨d, e, h, q⟩ => ⟨d, e, h, hk _ q⟩
def spl_common_divisor : PSp := fun ds k _ => ∃ a b : Int, ds = [.int a, .int b] ∧ k (.int (Int.gcd a b : Int))
theorem mo_common_divisor : MonoP spl_common_divisor := fun _ _ _ _ _ hk _ ⟨d, b, e, q⟩ => ⟨d, b, e, hk _ q⟩
def spl_new_fraction : PSp := fun ds k _ => ∃ (n d : Int) (b : Nat), ds = [.int n, .int d] ∧ d ≠ 0 ∧ B b d ∧ 0 < b ∧ b ≤ 9000 ∧ k (dQ (Rat.divInt n d))
theorem mo_new_fraction : MonoP spl_new_fraction := fun _ _ _ _ _ hk _ ⟨n, d, b, e, h1, h2, h3, h4, q⟩ => ⟨n, d, b, e, h1, h2, h3, h4, hk _ q⟩
def spl_is_less : PSp := fun ds k _ => ∃ (p q : Rat) (b : Nat), ds = [dQ p, dQ q] ∧ BQ b p ∧ BQ b q ∧ 0 < b ∧ b ≤ 4000 ∧ k (.bl (decide (p < q)))
theorem mo_is_less : MonoP spl_is_less := fun _ _ _ _ _ hk _ ⟨n, d, b, e, h1, h2, h3, h4, q⟩ => ⟨n, d, b, e, h1, h2, h3, h4, hk _ q⟩
def spl_sum_of : PSp := fun ds k _ => ∃ (p q : Rat) (b : Nat), ds = [dQ p, dQ q] ∧ BQ b p ∧ BQ b q ∧ 0 < b ∧ b ≤ 4000 ∧ k (dQ (p + q))
theorem mo_sum_of : MonoP spl_sum_of := fun _ _ _ _ _ hk _ ⟨n, d, b, e, h1, h2, h3, h4, q⟩ => ⟨n, d, b, e, h1, h2, h3, h4, hk _ q⟩
def spl_rest_of : PSp := fun ds k _ => ∃ (p q : Rat) (b : Nat), ds = [dQ p, dQ q] ∧ BQ b p ∧ BQ b q ∧ 0 < b ∧ b ≤ 4000 ∧ k (dQ (p - q))
theorem mo_rest_of : MonoP spl_rest_of := fun _ _ _ _ _ hk _ ⟨n, d, b, e, h1, h2, h3, h4, q⟩ => ⟨n, d, b, e, h1, h2, h3, h4, hk _ q⟩
def spl_product_of : PSp := fun ds k _ => ∃ (p q : Rat) (b : Nat), ds = [dQ p, dQ q] ∧ BQ b p ∧ BQ b q ∧ 0 < b ∧ b ≤ 4000 ∧ k (dQ (p * q))
theorem mo_product_of : MonoP spl_product_of := fun _ _ _ _ _ hk _ ⟨n, d, b, e, h1, h2, h3, h4, q⟩ => ⟨n, d, b, e, h1, h2, h3, h4, hk _ q⟩
def spl_share_of : PSp := fun ds k _ => ∃ (p q : Rat) (b : Nat), ds = [dQ p, dQ q] ∧ BQ b p ∧ BQ b q ∧ 0 < b ∧ b ≤ 4000 ∧ q ≠ 0 ∧ k (dQ (p / q))
theorem mo_share_of : MonoP spl_share_of := fun _ _ _ _ _ hk _ ⟨n, d, b, e, h1, h2, h3, h4, h5, q⟩ => ⟨n, d, b, e, h1, h2, h3, h4, h5, hk _ q⟩
theorem u_is_less {p q : Rat} {k : D → Prop} {x : Value → List (Str × D) → Prop} (h1 : BQ 4000 p) (h2 : BQ 4000 q) (h : k (.bl (decide (p < q)))) : spl_is_less [dQ p, dQ q] k x := ⟨p, q, 4000, rfl, h1, h2, by decide, by decide, h⟩
theorem u_sum_of {p q : Rat} {k : D → Prop} {x : Value → List (Str × D) → Prop} (h1 : BQ 4000 p) (h2 : BQ 4000 q) (h : k (dQ (p + q))) : spl_sum_of [dQ p, dQ q] k x := ⟨p, q, 4000, rfl, h1, h2, by decide, by decide, h⟩
theorem u_rest_of {p q : Rat} {k : D → Prop} {x : Value → List (Str × D) → Prop} (h1 : BQ 4000 p) (h2 : BQ 4000 q) (h : k (dQ (p - q))) : spl_rest_of [dQ p, dQ q] k x := ⟨p, q, 4000, rfl, h1, h2, by decide, by decide, h⟩
theorem u_product_of {p q : Rat} {k : D → Prop} {x : Value → List (Str × D) → Prop} (h1 : BQ 4000 p) (h2 : BQ 4000 q) (h : k (dQ (p * q))) : spl_product_of [dQ p, dQ q] k x := ⟨p, q, 4000, rfl, h1, h2, by decide, by decide, h⟩
theorem u_is_lessA {p q : Rat} {k : D → Prop} {x : Value → List (Str × D) → Prop} (h1 : BQ 4000 p) (h2 : BQ 4000 q) (h : k (.bl (decide (p < q)))) : spl_is_less ([dQ p, dQ q] ++ []) k x := u_is_less h1 h2 h
theorem u_sum_ofA {p q : Rat} {k : D → Prop} {x : Value → List (Str × D) → Prop} (h1 : BQ 4000 p) (h2 : BQ 4000 q) (h : k (dQ (p + q))) : spl_sum_of ([dQ p, dQ q] ++ []) k x := u_sum_of h1 h2 h
theorem u_rest_ofA {p q : Rat} {k : D → Prop} {x : Value → List (Str × D) → Prop} (h1 : BQ 4000 p) (h2 : BQ 4000 q) (h : k (dQ (p - q))) : spl_rest_of ([dQ p, dQ q] ++ []) k x := u_rest_of h1 h2 h
theorem u_product_ofA {p q : Rat} {k : D → Prop} {x : Value → List (Str × D) → Prop} (h1 : BQ 4000 p) (h2 : BQ 4000 q) (h : k (dQ (p * q))) : spl_product_of ([dQ p, dQ q] ++ []) k x := u_product_of h1 h2 h
theorem u_share_of {p q : Rat} {k : D → Prop} {x : Value → List (Str × D) → Prop} (h1 : BQ 4000 p) (h2 : BQ 4000 q) (h0 : q ≠ 0) (h : k (dQ (p / q))) : spl_share_of [dQ p, dQ q] k x := ⟨p, q, 4000, rfl, h1, h2, by decide, by decide, h0, h⟩
section
variable {P : Program} {w : World} {K : PySem.W.Frag} {mg : Str → Option Value} {base : Heap}
theorem ok_is_whole (T : Txt K mg) : FnOk P w K mg base (L2.CX P w) 1 T.is_whole.a T.is_whole.fd ["value"] (spD K 1 (pur (spl_is_whole))) := by
  refine fn_okP T.is_whole.F sc_is_whole rfl fun cdv A outer s H E hr => ?_
  have nd := sc_is_whole.nd
  have hu64 := hr.units
  have hu65 := hu65_of hr
  have hu1 := hu_of hr
  refine ⟨_, (pss_one (ps_ret (pe_and (pe_callB (cr_isiK (K := K) rfl) (by rfl) T.m_isinstance boot_isinstance (pa_cons (pv 0) (pa_cons (pe_bltn (v := .ty "int") (by rfl) T.m_int boot_int rfl) pa_nil))) (pe_one (pe_not (pe_callB (cr_isiK (K := K) rfl) (by rfl) T.m_isinstance boot_isinstance (pa_cons (pv 0) (pa_cons (pe_bltn (v := .ty "bool") (by rfl) T.m_bool boot_bool rfl) pa_nil)))))))), fun ds kk xx hl h => ?_⟩
  try dsimp only [cxOf]
  obtain ⟨d, rfl, hd, hk⟩ := h
  walk_at "go"
  refine XC.isT hd (by simp) ?_
  unfold D.isW at hk
  walk_at "go"
  refine ⟨fun hb => ?_, fun hb => ?_⟩
  · walk_at "go"
    refine XC.isT hd (by simp) ?_
    walk_at "go"
    rw [hb, Bool.true_and] at hk
    exact hk
  · rw [hb, Bool.false_and] at hk
    exact hk
theorem ok_common_divisor (T : Txt K mg) : FnOk P w K mg base (L2.CX P w) 1 T.common_divisor.a T.common_divisor.fd ["a", "b"] (spD K 2 (pur (spl_common_divisor))) := by
  refine fn_okP T.common_divisor.F sc_common_divisor rfl fun cdv A outer s H E hr => ?_
  have nd := sc_common_divisor.nd
  have hu64 := hr.units
  have hu65 := hu65_of hr
  have hu1 := hu_of hr
  refine ⟨_, (pss_cons (ps_par (i := 0) (j := 1) rfl nd rfl rfl (by decide) rfl rfl (pa_cons (pe_callB cr_abs (by rfl) T.m_abs boot_abs (pa_cons (pv 0) pa_nil)) (pa_cons (pe_callB cr_abs (by rfl) T.m_abs boot_abs (pa_cons (pv 1) pa_nil)) pa_nil)) (by rfl))
      (pss_cons (ps_while (passes_of rfl) (pt_cmpR (op_neK (K := K) rfl hu64) (pv 1) pe_int (nomark _)) (pss_one (ps_par (i := 0) (j := 1) rfl nd rfl rfl (by decide) rfl rfl (pa_cons (pv 1) (pa_cons (pe_op op_modN (pv 0) (pv 1)) pa_nil)) (by rfl))))
      (pss_one (ps_ret (pv 0))))), fun ds kk xx hl h => ?_⟩
  try dsimp only [cxOf]
  obtain ⟨a, b, rfl, hk⟩ := h
  walk_at "go"
  refine XS.while (fun m ds M => ∃ x y : Nat, ds = [some (.int x), some (.int y)] ∧ Nat.gcd x y = Int.gcd a b ∧ m = y ∧ M = []) b.natAbs ⟨_, _, rfl, rfl, rfl, rfl⟩ ?_
  rintro m _ M ⟨x, y, rfl, hg, rfl, rfl⟩
  walk_at "go"
  refine ⟨fun hb => ?_, fun hb => ?_⟩
  · have hy : m ≠ 0 := by simpa using hb
    walk_at "go"
    refine XR.i (by simpa using hy) ?_
    walk_at "go"
    refine ⟨x % m, Nat.mod_lt _ (by omega), m, x % m, ?_, ?_, rfl, rfl⟩
    · rw [Int.fmod_eq_emod_of_nonneg _ (by omega)]
      rfl
    · rw [Nat.gcd_comm, ← hg, Nat.gcd_comm x m]
      exact (Nat.gcd_rec m x).symm
  · have hy : m = 0 := by simpa using hb
    subst hy
    rw [Nat.gcd_zero_right] at hg
    walk_at "go"
    rw [hg]
    exact hk
theorem ok_new_fraction (T : Txt K mg) : FnOk P w K mg base (L2.CX P w) 2 T.new_fraction.a T.new_fraction.fd ["n", "d"] (spD K 2 (pur (spl_new_fraction))) := by
  refine fn_okP T.new_fraction.F sc_new_fraction rfl fun cdv A outer s H E hr => ?_
  have nd := sc_new_fraction.nd
  have hu64 := hr.units
  have hu65 := hu65_of hr
  have hu1 := hu_of hr
  refine ⟨_, (pss_cons (ps_set (i := 2) nd rfl (by first | exact Or.inl rfl | exact Or.inr rfl) (pe_call (ok_common_divisor T) (hr.mono (by decide)) rfl T.common_divisor.g T.common_divisor.F.kp (b_common_divisor T) .nil px0 (pa_cons (pv 0) (pa_cons (pv 1) pa_nil))))
      (pss_cons (ps_if (pt_cmpR op_lt (pv 1) pe_int (nomark _))
      (pss_one (ps_set (i := 2) nd rfl (by first | exact Or.inl rfl | exact Or.inr rfl) (pe_un un_neg (pv 2))))
      pss_nil)
      (pss_one (ps_ret (pe_tup (pa_cons (pe_op op_fdivZ (pv 0) (pv 2)) (pa_cons (pe_op op_fdivZ (pv 1) (pv 2)) pa_nil))))))), fun ds kk xx hl h => ?_⟩
  try dsimp only [cxOf]
  obtain ⟨n, d, b, rfl, h0, hd, hb0, hb1, hk⟩ := h
  walk_at "go"
  refine XE.callP mo_common_divisor (fun _ => rfl) (dD := []) (fun _ => .nil) ?_
  walk_at "go"
  refine ⟨rfl, n, d, rfl, ?_⟩
  have hg : B b (Int.gcd n d : Int) := hd.le (by rw [Int.natAbs_natCast]; exact Nat.le_of_dvd (by omega) (Int.gcd_dvd_natAbs_right n d))
  walk_at "go"
  refine ⟨fun hb => ?_, fun hb => ?_⟩
  · have hn : d < 0 := by simpa using hb
    rw [new_neg hn] at hk
    walk_at "go"
    refine XR.i (hg.neg.divOk (by have := gcd_ne (n := n) h0; omega) hb0 hb1) ?_
    walk_at "go"
    refine XR.i (hg.neg.divOk (by have := gcd_ne (n := n) h0; omega) hb0 hb1) ?_
    walk_at "go"
    exact hk
  · have hn : 0 < d := by
      have : ¬ d < 0 := by simpa using hb
      omega
    rw [new_pos hn] at hk
    walk_at "go"
    refine XR.i (hg.divOk (gcd_ne (n := n) h0) hb0 hb1) ?_
    walk_at "go"
    refine XR.i (hg.divOk (gcd_ne (n := n) h0) hb0 hb1) ?_
    walk_at "go"
    exact hk
theorem ok_is_less (T : Txt K mg) : FnOk P w K mg base (L2.CX P w) 1 T.is_less.a T.is_less.fd ["a", "b"] (spD K 2 (pur (spl_is_less))) := by
  refine fn_okP T.is_less.F sc_is_less rfl fun cdv A outer s H E hr => ?_
  have nd := sc_is_less.nd
  have hu64 := hr.units
  have hu65 := hu65_of hr
  have hu1 := hu_of hr
  refine ⟨_, (pss_one (ps_ret (pe_cmpR op_lt (pe_op op_mulW (pe_ix (ix_K (K := K) rfl) (pv 0) pe_int (fun _ _ => rfl)) (pe_ix (ix_K (K := K) rfl) (pv 1) pe_int (fun _ _ => rfl))) (pe_op op_mulW (pe_ix (ix_K (K := K) rfl) (pv 1) pe_int (fun _ _ => rfl)) (pe_ix (ix_K (K := K) rfl) (pv 0) pe_int (fun _ _ => rfl))) (nomark _)))), fun ds kk xx hl h => ?_⟩
  try dsimp only [cxOf]
  obtain ⟨p, q, b, rfl, h1, h2, h3, h4, hk⟩ := h
  walk_at "go"
  refine XR.i (h1.num.mulOk h2.den h3 h3 (by omega)) ?_
  walk_at "go"
  refine XR.i (h2.num.mulOk h1.den h3 h3 (by omega)) ?_
  walk_at "go"
  rw [← den_lt] at hk
  exact hk
theorem ok_sum_of (T : Txt K mg) : FnOk P w K mg base (L2.CX P w) 3 T.sum_of.a T.sum_of.fd ["a", "b"] (spD K 2 (pur (spl_sum_of))) := by
  refine fn_okP T.sum_of.F sc_sum_of rfl fun cdv A outer s H E hr => ?_
  have nd := sc_sum_of.nd
  have hu64 := hr.units
  have hu65 := hu65_of hr
  have hu1 := hu_of hr
  refine ⟨_, (pss_one (ps_ret (pe_call (ok_new_fraction T) (hr.mono (by decide)) rfl T.new_fraction.g T.new_fraction.F.kp (b_new_fraction T) .nil px0 (pa_cons (pe_op (op_addK (K := K) rfl) (pe_op op_mulW (pe_ix (ix_K (K := K) rfl) (pv 0) pe_int (fun _ _ => rfl)) (pe_ix (ix_K (K := K) rfl) (pv 1) pe_int (fun _ _ => rfl))) (pe_op op_mulW (pe_ix (ix_K (K := K) rfl) (pv 1) pe_int (fun _ _ => rfl)) (pe_ix (ix_K (K := K) rfl) (pv 0) pe_int (fun _ _ => rfl)))) (pa_cons (pe_op op_mulW (pe_ix (ix_K (K := K) rfl) (pv 0) pe_int (fun _ _ => rfl)) (pe_ix (ix_K (K := K) rfl) (pv 1) pe_int (fun _ _ => rfl))) pa_nil))))), fun ds kk xx hl h => ?_⟩
  try dsimp only [cxOf]
  obtain ⟨p, q, b, rfl, h1, h2, h3, h4, hk⟩ := h
  walk_at "go"
  refine XE.callP mo_new_fraction (fun _ => rfl) (dD := []) (fun _ => .nil) ?_
  walk_at "go"
  refine XR.i (h1.num.mulOk h2.den h3 h3 (by omega)) ?_
  walk_at "go"
  refine XR.i (h2.num.mulOk h1.den h3 h3 (by omega)) ?_
  walk_at "go"
  refine XR.i (h1.den.mulOk h2.den h3 h3 (by omega)) ?_
  walk_at "go"
  rw [← add_divInt] at hk
  exact ⟨rfl, _, _, b + b, rfl, Int.mul_ne_zero (den_ne p) (den_ne q), h1.den.mul h2.den, by omega, by omega, hk⟩
theorem ok_rest_of (T : Txt K mg) : FnOk P w K mg base (L2.CX P w) 3 T.rest_of.a T.rest_of.fd ["a", "b"] (spD K 2 (pur (spl_rest_of))) := by
  refine fn_okP T.rest_of.F sc_rest_of rfl fun cdv A outer s H E hr => ?_
  have nd := sc_rest_of.nd
  have hu64 := hr.units
  have hu65 := hu65_of hr
  have hu1 := hu_of hr
  refine ⟨_, (pss_one (ps_ret (pe_call (ok_new_fraction T) (hr.mono (by decide)) rfl T.new_fraction.g T.new_fraction.F.kp (b_new_fraction T) .nil px0 (pa_cons (pe_op op_sub (pe_op op_mulW (pe_ix (ix_K (K := K) rfl) (pv 0) pe_int (fun _ _ => rfl)) (pe_ix (ix_K (K := K) rfl) (pv 1) pe_int (fun _ _ => rfl))) (pe_op op_mulW (pe_ix (ix_K (K := K) rfl) (pv 1) pe_int (fun _ _ => rfl)) (pe_ix (ix_K (K := K) rfl) (pv 0) pe_int (fun _ _ => rfl)))) (pa_cons (pe_op op_mulW (pe_ix (ix_K (K := K) rfl) (pv 0) pe_int (fun _ _ => rfl)) (pe_ix (ix_K (K := K) rfl) (pv 1) pe_int (fun _ _ => rfl))) pa_nil))))), fun ds kk xx hl h => ?_⟩
  try dsimp only [cxOf]
  obtain ⟨p, q, b, rfl, h1, h2, h3, h4, hk⟩ := h
  walk_at "go"
  refine XE.callP mo_new_fraction (fun _ => rfl) (dD := []) (fun _ => .nil) ?_
  walk_at "go"
  refine XR.i (h1.num.mulOk h2.den h3 h3 (by omega)) ?_
  walk_at "go"
  refine XR.i (h2.num.mulOk h1.den h3 h3 (by omega)) ?_
  walk_at "go"
  refine XR.i (h1.den.mulOk h2.den h3 h3 (by omega)) ?_
  walk_at "go"
  rw [← sub_divInt] at hk
  exact ⟨rfl, _, _, b + b, rfl, Int.mul_ne_zero (den_ne p) (den_ne q), h1.den.mul h2.den, by omega, by omega, hk⟩
theorem ok_product_of (T : Txt K mg) : FnOk P w K mg base (L2.CX P w) 3 T.product_of.a T.product_of.fd ["a", "b"] (spD K 2 (pur (spl_product_of))) := by
  refine fn_okP T.product_of.F sc_product_of rfl fun cdv A outer s H E hr => ?_
  have nd := sc_product_of.nd
  have hu64 := hr.units
  have hu65 := hu65_of hr
  have hu1 := hu_of hr
  refine ⟨_, (pss_one (ps_ret (pe_call (ok_new_fraction T) (hr.mono (by decide)) rfl T.new_fraction.g T.new_fraction.F.kp (b_new_fraction T) .nil px0 (pa_cons (pe_op op_mulW (pe_ix (ix_K (K := K) rfl) (pv 0) pe_int (fun _ _ => rfl)) (pe_ix (ix_K (K := K) rfl) (pv 1) pe_int (fun _ _ => rfl))) (pa_cons (pe_op op_mulW (pe_ix (ix_K (K := K) rfl) (pv 0) pe_int (fun _ _ => rfl)) (pe_ix (ix_K (K := K) rfl) (pv 1) pe_int (fun _ _ => rfl))) pa_nil))))), fun ds kk xx hl h => ?_⟩
  try dsimp only [cxOf]
  obtain ⟨p, q, b, rfl, h1, h2, h3, h4, hk⟩ := h
  walk_at "go"
  refine XE.callP mo_new_fraction (fun _ => rfl) (dD := []) (fun _ => .nil) ?_
  walk_at "go"
  refine XR.i (h1.num.mulOk h2.num h3 h3 (by omega)) ?_
  walk_at "go"
  refine XR.i (h1.den.mulOk h2.den h3 h3 (by omega)) ?_
  walk_at "go"
  rw [← mul_divInt] at hk
  exact ⟨rfl, _, _, b + b, rfl, Int.mul_ne_zero (den_ne p) (den_ne q), h1.den.mul h2.den, by omega, by omega, hk⟩
theorem ok_share_of (T : Txt K mg) : FnOk P w K mg base (L2.CX P w) 3 T.share_of.a T.share_of.fd ["a", "b"] (spD K 2 (pur (spl_share_of))) := by
  refine fn_okP T.share_of.F sc_share_of rfl fun cdv A outer s H E hr => ?_
  have nd := sc_share_of.nd
  have hu64 := hr.units
  have hu65 := hu65_of hr
  have hu1 := hu_of hr
  refine ⟨_, (pss_one (ps_ret (pe_call (ok_new_fraction T) (hr.mono (by decide)) rfl T.new_fraction.g T.new_fraction.F.kp (b_new_fraction T) .nil px0 (pa_cons (pe_op op_mulW (pe_ix (ix_K (K := K) rfl) (pv 0) pe_int (fun _ _ => rfl)) (pe_ix (ix_K (K := K) rfl) (pv 1) pe_int (fun _ _ => rfl))) (pa_cons (pe_op op_mulW (pe_ix (ix_K (K := K) rfl) (pv 0) pe_int (fun _ _ => rfl)) (pe_ix (ix_K (K := K) rfl) (pv 1) pe_int (fun _ _ => rfl))) pa_nil))))), fun ds kk xx hl h => ?_⟩
  try dsimp only [cxOf]
  obtain ⟨p, q, b, rfl, h1, h2, h3, h4, h5, hk⟩ := h
  walk_at "go"
  refine XE.callP mo_new_fraction (fun _ => rfl) (dD := []) (fun _ => .nil) ?_
  walk_at "go"
  refine XR.i (h1.num.mulOk h2.den h3 h3 (by omega)) ?_
  walk_at "go"
  refine XR.i (h1.den.mulOk h2.num h3 h3 (by omega)) ?_
  walk_at "go"
  rw [← div_divInt] at hk
  exact ⟨rfl, _, _, b + b, rfl, Int.mul_ne_zero (den_ne p) (num_ne h5), h1.den.mul h2.num, by omega, by omega, hk⟩
theorem bqD : True := trivial
def R_order_of (ds : List D) (r : D) : Prop := ∃ (p q : Rat), ds = [dQ p, dQ q] ∧ BQ 4000 p ∧ BQ 4000 q ∧ r = .int (sgn (p - q))
def R_floor_of (ds : List D) (r : D) : Prop := ∃ (q : Rat), ds = [dQ q] ∧ BQ 9000 q ∧ r = .int q.floor
theorem order_gap (p q : Rat) : ((if 0 < p.num * (q.den : Int) - q.num * (p.den : Int) then (1 : Int) else 0) - if p.num * (q.den : Int) - q.num * (p.den : Int) < 0 then 1 else 0) = sgn (p - q) := by
  have h1 : (0 < p.num * (q.den : Int) - q.num * (p.den : Int)) ↔ q < p := by
    rw [Rat.lt_iff]
    omega
  have h2 : (p.num * (q.den : Int) - q.num * (p.den : Int) < 0) ↔ p < q := by
    rw [Rat.lt_iff]
    omega
  unfold sgn
  by_cases a : q < p
  · rw [if_pos (h1.mpr a), if_neg (fun z => by have := h2.mp z; grind), if_pos (by grind)]
    rfl
  · by_cases b : p < q
    · rw [if_neg (fun z => a (h1.mp z)), if_pos (h2.mpr b), if_neg (by grind), if_pos (by grind)]
      rfl
    · rw [if_neg (fun z => a (h1.mp z)), if_neg (fun z => b (h2.mp z)), if_neg (by grind), if_neg (by grind)]
      rfl
theorem ok_order_of (T : Txt K mg) : FnOk P w K mg base (L2.CX P w) 1 T.order_of.a T.order_of.fd ["a", "b"] (spD K 2 (pur ((spR R_order_of)))) := by
  refine fn_okP T.order_of.F sc_order_of rfl fun cdv A outer s H E hr => ?_
  have nd := sc_order_of.nd
  have hu64 := hr.units
  have hu65 := hu65_of hr
  have hu1 := hu_of hr
  refine ⟨_, (pss_cons (ps_set (i := 2) nd rfl (by first | exact Or.inl rfl | exact Or.inr rfl) (pe_op op_sub (pe_op op_mulW (pe_ix (ix_K (K := K) rfl) (pv 0) pe_int (fun _ _ => rfl)) (pe_ix (ix_K (K := K) rfl) (pv 1) pe_int (fun _ _ => rfl))) (pe_op op_mulW (pe_ix (ix_K (K := K) rfl) (pv 1) pe_int (fun _ _ => rfl)) (pe_ix (ix_K (K := K) rfl) (pv 0) pe_int (fun _ _ => rfl)))))
      (pss_one (ps_ret (pe_op op_subB (pe_cmpR op_gt (pv 2) pe_int (nomark _)) (pe_cmpR op_lt (pv 2) pe_int (nomark _)))))), fun ds kk xx hl h => ?_⟩
  try dsimp only [cxOf]
  obtain ⟨_, ⟨p, q, rfl, h1, h2, rfl⟩, hk⟩ := h
  walk_at "go"
  refine XR.i (h1.num.mulOk h2.den (by decide) (by decide) (by omega)) ?_
  walk_at "go"
  refine XR.i (h2.num.mulOk h1.den (by decide) (by decide) (by omega)) ?_
  walk_at "go"
  rw [← order_gap] at hk
  have e : ∀ a b : Prop, ∀ [Decidable a] [Decidable b], i01 (decide a) - i01 (decide b) = (if a then (1 : Int) else 0) - (if b then 1 else 0) := by
    intro a b _ _
    unfold i01
    simp only [decide_eq_true_eq]
  refine XR.subB ?_
  rw [e]
  exact hk
theorem ok_floor_of (T : Txt K mg) : FnOk P w K mg base (L2.CX P w) 1 T.floor_of.a T.floor_of.fd ["a"] (spD K 1 (pur ((spR R_floor_of)))) := by
  refine fn_okP T.floor_of.F sc_floor_of rfl fun cdv A outer s H E hr => ?_
  have nd := sc_floor_of.nd
  have hu64 := hr.units
  have hu65 := hu65_of hr
  have hu1 := hu_of hr
  refine ⟨_, (pss_one (ps_ret (pe_op op_fdivZ (pe_ix (ix_K (K := K) rfl) (pv 0) pe_int (fun _ _ => rfl)) (pe_ix (ix_K (K := K) rfl) (pv 0) pe_int (fun _ _ => rfl))))), fun ds kk xx hl h => ?_⟩
  try dsimp only [cxOf]
  obtain ⟨_, ⟨q, rfl, h1, rfl⟩, hk⟩ := h
  walk_at "go"
  refine XR.i (h1.den.divOk (den_ne q) (by decide) (by decide)) ?_
  walk_at "go"
  rw [Rat.floor_def] at hk
  rw [Int.fdiv_eq_ediv_of_nonneg _ (by omega)]
  exact hk
end
theorem u_order_of {p q : Rat} (h1 : BQ 4000 p) (h2 : BQ 4000 q) : R_order_of [dQ p, dQ q] (.int (sgn (p - q))) := ⟨p, q, rfl, h1, h2, rfl⟩
theorem u_floor_of {q : Rat} (h : BQ 9000 q) : R_floor_of [dQ q] (.int q.floor) := ⟨q, rfl, h, rfl⟩
end My


namespace My
open PySem L2 DL PyProof.Rows
local macro_rules | `(tactic| walk_at "go") => `(tactic| repeat (first
  | ((with_reducible refine idE ?_); first
    | ((with_reducible apply XE.var); · exact rfl)
    | (with_reducible first
      | refine XE.op ?_
      | refine XE.int ?_
      | refine XE.str ?_
      | refine XE.ite ?_
      | refine XE.cb ?_
      | refine XE.tup ?_
      | refine XE.bl ?_
      | refine XE.non ?_
      | refine XE.ty ?_
      | refine XE.un ?_
      | refine XE.andV ?_
      | refine XE.orV ?_
      | refine XE.notV ?_
      | refine XE.slice ?_
      | refine XE.chain ?_))
  | ((with_reducible refine idA ?_); with_reducible first
      | refine XA.nil ?_
      | refine XA.cons ?_)
  | ((with_reducible refine idR ?_); first
      | (with_reducible first
        | refine XR.add_int ?_
        | refine XR.eq_int ?_
        | refine XR.ne_int ?_
        | refine XR.i0 ?_
        | refine XR.b0 ?_
        | refine XR.isN ?_
        | refine XR.ntN ?_)
      | refine XR.ix_tup rfl ?_
      | refine XR.ix_lst (by first | exact LsAt.lst | exact LsAt.raw At.hd) rfl ?_)
  | ((with_reducible refine idS ?_); with_reducible first
      | refine XS.seq ?_
      | refine XS.asg ?_
      | refine XS.ret ?_
      | refine XS.ifs ?_
      | refine XS.next ?_
      | refine XS.drop ?_
      | refine XS.par ?_)
  | ((with_reducible refine idT ?_); with_reducible first
      | refine XT.tst ?_
      | refine XT.bool ?_
      | refine XT.and ?_
      | refine XT.or ?_
      | refine XT.not ?_)
  | with_reducible refine ex1 ?_
  | refine pickF rfl ?_
  | refine pickT rfl ?_
  | ((with_reducible refine idO ?_); with_reducible first
      | refine XO.none ?_
      | refine XO.some ?_)
  | ((with_reducible refine idGs ?_); with_reducible first
      | refine XGs.nil ?_
      | refine XGs.cons ?_)
  | ((with_reducible refine idG ?_); with_reducible first
      | refine XG.name (by simp) ?_
      | refine XG.tup rfl ?_)
  | with_reducible refine XC.abs ?_
  | with_reducible refine XU.neg ?_
  | refine ⟨_, _, rfl, ?_⟩
  | refine ⟨_, rfl, ?_⟩
  | refine ⟨show (_ : Nat) + 1 ≤ 16000000 by simp only [List.length_cons, List.length_nil] <;> decide, ?_⟩
  | dsimp only))
local macro_rules | `(tactic| walk_at "sp") => `(tactic| first | refine ⟨[], _, rfl, rfl, ?_⟩ | refine ⟨rfl, ?_⟩)

def spl_is_fraction : PSp := fun ds k _ => ∃ n m : Int, ds = [.tup [.int n, .int m]] ∧ k (.bl (decide (1 ≤ m) && decide (Int.gcd n m = 1)))
theorem mo_is_fraction : MonoP spl_is_fraction := fun _ _ _ _ _ hk _ ⟨n, d, e, q⟩ => ⟨n, d, e, hk _ q⟩
def spl_is_knot : PSp := fun ds k _ => ∃ q : Kn, ds = [dKn q] ∧ k (.bl true)
theorem mo_is_knot : MonoP spl_is_knot := fun _ _ _ _ _ hk _ ⟨n, e, q⟩ => ⟨n, e, hk _ q⟩
def spl_are_knots : PSp := fun ds k _ => ∃ (d : D) (ks : List Kn) (b : Nat), ds = [d] ∧ (d = .lst (ks.map dKn) ∨ d = .tup (ks.map dKn)) ∧ BKs b ks ∧ 0 < b ∧ b ≤ 4000 ∧ ks.length ≤ 1000000 ∧ ∀ r : Bool, (r = true ↔ ks ≠ [] ∧ Asc ks) → k (.bl r)
theorem mo_are_knots : MonoP spl_are_knots := fun _ _ _ _ _ hk _ ⟨d, ks, b, e, h1, h2, h3, h4, h5, q⟩ => ⟨d, ks, b, e, h1, h2, h3, h4, h5, fun r h => hk _ (q r h)⟩
local macro_rules | `(tactic| walk_at "mo") => `(tactic| first | exact mo_is_whole | exact mo_common_divisor | exact mo_is_less | exact mo_rest_of | exact mo_share_of | exact mo_sum_of | exact mo_is_fraction | exact mo_is_knot)
local macro_rules | `(tactic| walk_at "call") => `(tactic| (refine XE.callP (by walk_at "mo") (fun _ => rfl) (dD := []) (fun _ => .nil) ?_))
section
variable {P : Program} {w : World} {K : PySem.W.Frag} {mg : Str → Option Value} {base : Heap}
theorem ok_is_fraction (T : Txt K mg) : FnOk P w K mg base (L2.CX P w) 2 T.is_fraction.a T.is_fraction.fd ["value"] (spD K 1 (pur (spl_is_fraction))) := by
  refine fn_okP T.is_fraction.F sc_is_fraction rfl fun cdv A outer s H E hr => ?_
  have nd := sc_is_fraction.nd
  have hu64 := hr.units
  have hu65 := hu65_of hr
  have hu1 := hu_of hr
  refine ⟨_, (pss_cons (ps_if (PW.pt (pw_or (pt_not (pt_val (pe_callB (cr_isiK (K := K) rfl) (by rfl) T.m_isinstance boot_isinstance (pa_cons (pv 0) (pa_cons (pe_bltn (v := .ty "tuple") (by rfl) T.m_tuple boot_tuple rfl) pa_nil))))) (pw_or (pt_cmpR (op_neK (K := K) rfl hu64) (pe_callB (cr_lenK (K := K) rfl) (by rfl) T.m_len PySem.boot_len (pa_cons (pv 0) pa_nil)) pe_int (nomark _)) (pw_or (pt_not (pt_val (pe_call (ok_is_whole T) (hr.mono (by decide)) rfl T.is_whole.g T.is_whole.F.kp (b_is_whole T) .nil px0 (pa_cons (pe_ix (ix_K (K := K) rfl) (pv 0) pe_int (fun _ _ => rfl)) pa_nil)))) (pw_or1 (pt_not (pt_val (pe_call (ok_is_whole T) (hr.mono (by decide)) rfl T.is_whole.g T.is_whole.F.kp (b_is_whole T) .nil px0 (pa_cons (pe_ix (ix_K (K := K) rfl) (pv 0) pe_int (fun _ _ => rfl)) pa_nil)))))))))
      (pss_one (ps_ret pe_bl))
      pss_nil)
      (pss_one (ps_ret (pe_and (pe_cmpR op_ge (pe_ix (ix_K (K := K) rfl) (pv 0) pe_int (fun _ _ => rfl)) pe_int (nomark _)) (pe_one (pe_cmpR (op_eqK (K := K) rfl hu64) (pe_call (ok_common_divisor T) (hr.mono (by decide)) rfl T.common_divisor.g T.common_divisor.F.kp (b_common_divisor T) .nil px0 (pa_cons (pe_ix (ix_K (K := K) rfl) (pv 0) pe_int (fun _ _ => rfl)) (pa_cons (pe_ix (ix_K (K := K) rfl) (pv 0) pe_int (fun _ _ => rfl)) pa_nil))) pe_int (nomark _))))))), fun ds kk xx hl h => ?_⟩
  try dsimp only [cxOf]
  obtain ⟨n, m, rfl, hk⟩ := h
  walk_at "go"
  refine XC.isT rfl (by simp) ?_
  walk_at "go"
  refine XC.len .tup ?_
  walk_at "go"
  walk_at "call"
  walk_at "go"
  refine ⟨rfl, _, rfl, rfl, ?_⟩
  walk_at "go"
  walk_at "call"
  walk_at "go"
  refine ⟨rfl, _, rfl, rfl, ?_⟩
  walk_at "go"
  refine ⟨fun hb => ?_, fun hb => ?_⟩
  · walk_at "go"
    walk_at "call"
    walk_at "go"
    refine ⟨rfl, _, _, rfl, ?_⟩
    walk_at "go"
    rw [hb, Bool.true_and] at hk
    have e : decide ((Int.gcd n m : Int) = 1) = decide (Int.gcd n m = 1) := by
      rw [decide_eq_decide]
      omega
    rw [e]
    exact hk
  · rw [hb, Bool.false_and] at hk
    exact hk
theorem isFr_dQ (q : Rat) : (decide ((1 : Int) ≤ (q.den : Int)) && decide (Int.gcd q.num q.den = 1)) = true := by
  rw [Bool.and_eq_true, decide_eq_true_eq, decide_eq_true_eq]
  exact ⟨by have := den_pos q; omega, gcd_num_den q⟩
theorem ok_is_knot (T : Txt K mg) : FnOk P w K mg base (L2.CX P w) 3 T.is_knot.a T.is_knot.fd ["value"] (spD K 1 (pur (spl_is_knot))) := by
  refine fn_okP T.is_knot.F sc_is_knot rfl fun cdv A outer s H E hr => ?_
  have nd := sc_is_knot.nd
  have hu64 := hr.units
  have hu65 := hu65_of hr
  have hu1 := hu_of hr
  refine ⟨_, (pss_one (ps_ret (pe_and (pe_callB (cr_isiK (K := K) rfl) (by rfl) T.m_isinstance boot_isinstance (pa_cons (pv 0) (pa_cons (pe_bltn (v := .ty "tuple") (by rfl) T.m_tuple boot_tuple rfl) pa_nil))) (pe_and (pe_cmpR (op_eqK (K := K) rfl hu64) (pe_callB (cr_lenK (K := K) rfl) (by rfl) T.m_len PySem.boot_len (pa_cons (pv 0) pa_nil)) pe_int (nomark _)) (pe_and (pe_call (ok_is_fraction T) (hr.mono (by decide)) rfl T.is_fraction.g T.is_fraction.F.kp (b_is_fraction T) .nil px0 (pa_cons (pe_ix (ix_K (K := K) rfl) (pv 0) pe_int (fun _ _ => rfl)) pa_nil)) (pe_one (pe_call (ok_is_fraction T) (hr.mono (by decide)) rfl T.is_fraction.g T.is_fraction.F.kp (b_is_fraction T) .nil px0 (pa_cons (pe_ix (ix_K (K := K) rfl) (pv 0) pe_int (fun _ _ => rfl)) pa_nil)))))))), fun ds kk xx hl h => ?_⟩
  try dsimp only [cxOf]
  obtain ⟨q, rfl, hk⟩ := h
  walk_at "go"
  refine XC.isT rfl (by simp) ?_
  walk_at "go"
  refine XC.len .tup ?_
  walk_at "go"
  walk_at "call"
  walk_at "go"
  refine ⟨rfl, _, _, rfl, ?_⟩
  rw [isFr_dQ]
  walk_at "go"
  walk_at "call"
  walk_at "go"
  refine ⟨rfl, _, _, rfl, ?_⟩
  rw [isFr_dQ]
  exact hk
theorem isiT_seq : kitAnyB "list" ["list", "tuple"] = some true ∧ kitAnyB "tuple" ["list", "tuple"] = some true := by decide +kernel
theorem asc_cons {ks : List Kn} {i : Nat} (h : ∀ j a b, j < i → ks[j]? = some a → ks[j + 1]? = some b → a.1 < b.1) {a b : Kn} (ha : ks[i]? = some a) (hb : ks[i + 1]? = some b) (hab : a.1 < b.1) : ∀ j a b, j < i + 1 → ks[j]? = some a → ks[j + 1]? = some b → a.1 < b.1 := fun j x y hj hx hy => by
  by_cases e : j = i
  · subst e
    rw [ha] at hx
    rw [hb] at hy
    cases hx
    cases hy
    exact hab
  · exact h j x y (by omega) hx hy
theorem ok_are_knots (T : Txt K mg) : FnOk P w K mg base (L2.CX P w) 4 T.are_knots.a T.are_knots.fd ["value"] (spD K 1 (pur (spl_are_knots))) := by
  refine fn_okP T.are_knots.F sc_are_knots rfl fun cdv A outer s H E hr => ?_
  have nd := sc_are_knots.nd
  have hu64 := hr.units
  have hu65 := hu65_of hr
  have hu1 := hu_of hr
  refine ⟨_, (pss_cons (ps_if (PW.pt (pw_or (pt_not (pt_val (pe_callB (cr_isiTK (K := K) rfl) (by rfl) T.m_isinstance boot_isinstance (pa_cons (pv 0) (pa_cons (pe_tup (pa_cons (pe_bltn (v := .ty "list") (by rfl) T.m_list boot_list rfl) (pa_cons (pe_bltn (v := .ty "tuple") (by rfl) T.m_tuple boot_tuple rfl) pa_nil))) pa_nil))))) (pw_or1 (pt_cmpR (op_eqK (K := K) rfl hu64) (pe_callB (cr_lenK (K := K) rfl) (by rfl) T.m_len PySem.boot_len (pa_cons (pv 0) pa_nil)) pe_int (nomark _)))))
      (pss_one (ps_ret pe_bl))
      pss_nil)
      (pss_cons (ps_for (passes_of rfl) rfl (pi_K (K := K) rfl (pv 0)) (pg_name (i := 1) nd rfl (by first | exact Or.inl rfl | exact Or.inr rfl))
      (pss_one (ps_if (pt_not (pt_val (pe_call (ok_is_knot T) (hr.mono (by decide)) rfl T.is_knot.g T.is_knot.F.kp (b_is_knot T) .nil px0 (pa_cons (pv 1) pa_nil))))
      (pss_one (ps_ret pe_bl))
      pss_nil)))
      (pss_cons (ps_for (passes_of rfl) rfl (pi_range2 rfl T.m_range (pa_cons pe_int (pa_cons (pe_callB (cr_lenK (K := K) rfl) (by rfl) T.m_len PySem.boot_len (pa_cons (pv 0) pa_nil)) pa_nil))) (pg_name (i := 2) nd rfl (by first | exact Or.inl rfl | exact Or.inr rfl))
      (pss_one (ps_if (pt_not (pt_val (pe_call (ok_is_less T) (hr.mono (by decide)) rfl T.is_less.g T.is_less.F.kp (b_is_less T) .nil px0 (pa_cons (pe_ix (ix_K (K := K) rfl) (pe_ix (ix_K (K := K) rfl) (pv 0) (pe_op op_sub (pv 2) pe_int) (fun _ _ => rfl)) pe_int (fun _ _ => rfl)) (pa_cons (pe_ix (ix_K (K := K) rfl) (pe_ix (ix_K (K := K) rfl) (pv 0) (pv 2) (fun _ _ => rfl)) pe_int (fun _ _ => rfl)) pa_nil)))))
      (pss_one (ps_ret pe_bl))
      pss_nil)))
      (pss_one (ps_ret pe_bl))))), fun ds kk xx hl h => ?_⟩
  try dsimp only [cxOf]
  obtain ⟨d, ks, b, rfl, hd, hB, hb0, hb1, hlen, hk⟩ := h
  have sq : ∀ M, SqAt M d (ks.map dKn) := fun M => by
    rcases hd with rfl | rfl
    · exact .lst
    · exact .tup
  have wk : WkAt d (ks.map dKn) := by
    rcases hd with rfl | rfl
    · exact .lst
    · exact .tup
  have ix : ∀ {M : Mem} {i : Int} {k : D → Mem → Prop} {j : Nat} {a : Kn}, i = (j : Int) → ks[j]? = some a → k (dKn a) M → XR K (rIx K) d (.int i) M k := fun {M i k j a} e ha q => by
    have h2 := at_nat e (get_map (e := dKn) ha)
    rcases hd with rfl | rfl
    · exact XR.ix_lst .lst h2 q
    · exact XR.ix_tup h2 q
  refine XS.seq (XS.ifs (XT.or (XT.not (XT.bool (XE.isiT ?_)))))
  walk_at "go"
  have hty : ∃ a, d.tyN = some a ∧ kitAnyB a ["list", "tuple"] = some true := by
    rcases hd with rfl | rfl
    · exact ⟨_, rfl, isiT_seq.1⟩
    · exact ⟨_, rfl, isiT_seq.2⟩
  obtain ⟨a, ha1, ha2⟩ := hty
  refine ⟨a, true, ["list", "tuple"], rfl, by decide, ha1, ha2, ?_⟩
  walk_at "go"
  refine XC.len (sq _) ?_
  walk_at "go"
  refine ⟨fun hz => ?_, fun hz => ?_⟩
  · walk_at "go"
    refine hk false ⟨fun z => (nomatch z), fun z => ?_⟩
    exact absurd (List.length_eq_zero_iff.mp (by simpa using hz)) z.1
  · have hne : ks ≠ [] := fun z => by
      subst z
      simp at hz
    walk_at "go"
    refine XS.for [1] (XI.U ?_)
    walk_at "go"
    refine ⟨ks.map dKn, wk, fun i ds M => (∃ y, ds = [some d, y, none]) ∧ M = [], ⟨⟨_, rfl⟩, rfl⟩, ?_, ?_⟩
    · rintro i x _ M hx ⟨⟨y, rfl⟩, rfl⟩
      obtain ⟨kn, hkn, rfl⟩ := map_get hx
      walk_at "go"
      walk_at "call"
      walk_at "go"
      refine ⟨rfl, kn, rfl, ?_⟩
      walk_at "go"
      exact ⟨⟨_, rfl⟩, rfl⟩
    · rintro _ M ⟨⟨y, rfl⟩, rfl⟩
      walk_at "go"
      refine XS.for [2] (XI.rng2 ?_)
      walk_at "go"
      refine XC.len (sq _) ?_
      walk_at "go"
      rw [List.length_map]
      refine ⟨⟨by decide, by decide, by omega, by omega⟩, fun i ds M => (∃ z, ds = [some d, y, z]) ∧ M = [] ∧ ∀ j a b, j < i → ks[j]? = some a → ks[j + 1]? = some b → a.1 < b.1, ⟨⟨_, rfl⟩, rfl, fun j a b hj => absurd hj (Nat.not_lt_zero _)⟩, ?_, ?_⟩
      · rintro i x _ M hx ⟨⟨z, rfl⟩, rfl, hI⟩
        rw [rngD_get] at hx
        split at hx
        · rename_i hi
          cases hx
          obtain ⟨ka, hka⟩ : ∃ ka, ks[i]? = some ka := ⟨_, List.getElem?_eq_getElem (show i < ks.length by omega)⟩
          obtain ⟨kb, hkb⟩ : ∃ kb, ks[i + 1]? = some kb := ⟨_, List.getElem?_eq_getElem (show i + 1 < ks.length by omega)⟩
          walk_at "go"
          walk_at "call"
          walk_at "go"
          refine ix (j := i) (by omega) hka ?_
          walk_at "go"
          refine ix (j := i + 1) (by omega) hkb ?_
          walk_at "go"
          refine ⟨rfl, ka.1, kb.1, b, rfl, (hB.get hka).1, (hB.get hkb).1, hb0, hb1, ?_⟩
          walk_at "go"
          refine ⟨fun hlt => ?_, fun hlt => ?_⟩
          · walk_at "go"
            refine hk false ⟨fun z => (nomatch z), fun z => ?_⟩
            have := z.2 i ka kb hka hkb
            simp [this] at hlt
          · walk_at "go"
            refine ⟨⟨_, rfl⟩, rfl, asc_cons hI hka hkb (by simpa using hlt)⟩
        · cases hx
      · rintro _ M ⟨⟨z, rfl⟩, rfl, hI⟩
        walk_at "go"
        rw [rngD_len] at hI
        refine hk true ⟨fun _ => ⟨hne, fun i a b ha hb => hI i a b ?_ ha hb⟩, fun _ => rfl⟩
        have := (List.getElem?_eq_some_iff.mp hb).1
        omega
end
end My

namespace My
open PySem L2 DL PyProof.Rows
local macro_rules | `(tactic| walk_at "go") => `(tactic| repeat (first
  | ((with_reducible refine idE ?_); first
    | ((with_reducible apply XE.var); · exact rfl)
    | (with_reducible first
      | refine XE.op ?_
      | refine XE.int ?_
      | refine XE.str ?_
      | refine XE.ite ?_
      | refine XE.cb ?_
      | refine XE.tup ?_
      | refine XE.bl ?_
      | refine XE.non ?_
      | refine XE.ty ?_
      | refine XE.un ?_
      | refine XE.andV ?_
      | refine XE.orV ?_
      | refine XE.notV ?_
      | refine XE.slice ?_
      | refine XE.chain ?_))
  | ((with_reducible refine idA ?_); with_reducible first
      | refine XA.nil ?_
      | refine XA.cons ?_)
  | ((with_reducible refine idR ?_); first
      | (with_reducible first
        | refine XR.add_int ?_
        | refine XR.eq_int ?_
        | refine XR.ne_int ?_
        | refine XR.i0 ?_
        | refine XR.b0 ?_
        | refine XR.isN ?_
        | refine XR.ntN ?_)
      | refine XR.ix_tup rfl ?_
      | refine XR.ix_lst (by first | exact LsAt.lst | exact LsAt.raw At.hd) rfl ?_)
  | ((with_reducible refine idS ?_); with_reducible first
      | refine XS.seq ?_
      | refine XS.asg ?_
      | refine XS.ret ?_
      | refine XS.ifs ?_
      | refine XS.next ?_
      | refine XS.drop ?_
      | refine XS.par ?_)
  | ((with_reducible refine idT ?_); with_reducible first
      | refine XT.tst ?_
      | refine XT.bool ?_
      | refine XT.and ?_
      | refine XT.or ?_
      | refine XT.not ?_)
  | with_reducible refine ex1 ?_
  | refine pickF rfl ?_
  | refine pickT rfl ?_
  | ((with_reducible refine idO ?_); with_reducible first
      | refine XO.none ?_
      | refine XO.some ?_)
  | ((with_reducible refine idGs ?_); with_reducible first
      | refine XGs.nil ?_
      | refine XGs.cons ?_)
  | ((with_reducible refine idG ?_); with_reducible first
      | refine XG.name (by simp) ?_
      | refine XG.tup rfl ?_)
  | with_reducible refine XC.abs ?_
  | with_reducible refine XU.neg ?_
  | refine ⟨_, _, rfl, ?_⟩
  | refine ⟨_, rfl, ?_⟩
  | refine ⟨show (_ : Nat) + 1 ≤ 16000000 by simp only [List.length_cons, List.length_nil] <;> decide, ?_⟩
  | dsimp only))
local macro_rules | `(tactic| walk_at "sp") => `(tactic| first | refine ⟨[], _, rfl, rfl, ?_⟩ | refine ⟨rfl, ?_⟩)

def spl_slopes_of : PSp := fun ds k _ => ∃ (ks : List Kn) (b : Nat), ds = [.tup (ks.map dKn)] ∧ BKs b ks ∧ 0 < b ∧ b ≤ 1000 ∧ ks.length ≤ 1000000 ∧ Asc ks ∧ k (.lst ((slopes ks).map dQ))
theorem mo_slopes_of : MonoP spl_slopes_of := fun _ _ _ _ _ hk _ ⟨ks, b, e, h1, h2, h3, h4, h5, q⟩ => ⟨ks, b, e, h1, h2, h3, h4, h5, hk _ q⟩
def spl_turns_of : PSp := fun ds k _ => ∃ (ks : List Kn) (b : Nat), ds = [.tup (ks.map dKn)] ∧ BKs b ks ∧ 0 < b ∧ b ≤ 1000 ∧ ks.length ≤ 1000000 ∧ Asc ks ∧ ks ≠ [] ∧ k (.tup ((turns ks).map dKn))
theorem mo_turns_of : MonoP spl_turns_of := fun _ _ _ _ _ hk _ ⟨ks, b, e, h1, h2, h3, h4, h5, h6, q⟩ => ⟨ks, b, e, h1, h2, h3, h4, h5, h6, hk _ q⟩
local macro_rules | `(tactic| walk_at "mo") => `(tactic| first | exact mo_is_whole | exact mo_common_divisor | exact mo_is_less | exact mo_rest_of | exact mo_share_of | exact mo_sum_of | exact mo_is_fraction | exact mo_is_knot | exact mo_are_knots | exact mo_slopes_of | exact mo_turns_of)
local macro_rules | `(tactic| walk_at "call") => `(tactic| (refine XE.callP (by walk_at "mo") (fun _ => rfl) (dD := []) (fun _ => .nil) ?_))
theorem take_get {α : Type} {xs : List α} {i : Nat} {x : α} (h : xs[i]? = some x) : xs.take (i + 1) = xs.take i ++ [x] := by
  rw [List.take_add_one, h]
  rfl
section
variable {P : Program} {w : World} {K : PySem.W.Frag} {mg : Str → Option Value} {base : Heap}
theorem ok_slopes_of (T : Txt K mg) : FnOk P w K mg base (L2.CX P w) 4 T.slopes_of.a T.slopes_of.fd ["points"] (spD K 1 (pur (spl_slopes_of))) := by
  refine fn_okP T.slopes_of.F sc_slopes_of rfl fun cdv A outer s H E hr => ?_
  have nd := sc_slopes_of.nd
  have hu64 := hr.units
  have hu65 := hu65_of hr
  have hu1 := hu_of hr
  refine ⟨_, (pss_cons (ps_set (i := 1) nd rfl (by first | exact Or.inl rfl | exact Or.inr rfl) (pe_lst pa_nil))
      (pss_cons (ps_for (passes_of rfl) rfl (pi_zipK (K := K) rfl (by rfl) T.m_zip (pa_cons (pv 0) (pa_cons (pe_slice (sl_K (K := K) rfl) (pv 0) (po_some pe_int) po_none) pa_nil))) (pg_tupK (K := K) (n := 2) rfl rfl (pgs_cons (pg_name (i := 2) nd rfl (by first | exact Or.inl rfl | exact Or.inr rfl)) (pgs_cons (pg_name (i := 3) nd rfl (by first | exact Or.inl rfl | exact Or.inr rfl)) pgs_nil)))
      (pss_one (ps_expr (pe_bmK (K := K) rfl PySem.F.plainAttrs_list PySem.F.slot_list_append PySem.F.type_list_append mt_append (pv 1) (pa_cons (pe_call (ok_share_of T) (hr.mono (by decide)) rfl T.share_of.g T.share_of.F.kp (b_share_of T) .nil px0 (pa_cons (pe_call (ok_rest_of T) (hr.mono (by decide)) rfl T.rest_of.g T.rest_of.F.kp (b_rest_of T) .nil px0 (pa_cons (pe_ix (ix_K (K := K) rfl) (pv 3) pe_int (fun _ _ => rfl)) (pa_cons (pe_ix (ix_K (K := K) rfl) (pv 2) pe_int (fun _ _ => rfl)) pa_nil))) (pa_cons (pe_call (ok_rest_of T) (hr.mono (by decide)) rfl T.rest_of.g T.rest_of.F.kp (b_rest_of T) .nil px0 (pa_cons (pe_ix (ix_K (K := K) rfl) (pv 3) pe_int (fun _ _ => rfl)) (pa_cons (pe_ix (ix_K (K := K) rfl) (pv 2) pe_int (fun _ _ => rfl)) pa_nil))) pa_nil))) pa_nil)))))
      (pss_one (ps_ret (pe_op (op_addK (K := K) rfl) (pv 1) (pe_lst (pa_cons (pe_glob (v := .ref T.a_ZERO_tables) rfl T.g_ZERO_tables rfl) pa_nil))))))), fun ds kk xx hl h => ?_⟩
  try dsimp only [cxOf]
  obtain ⟨ks, b, rfl, hB, hb0, hb1, hlen, hA, hk⟩ := h
  refine XS.seq (XS.asg (XE.lstM ?_))
  walk_at "go"
  refine ⟨by decide, fun p hp => ?_⟩
  walk_at "go"
  refine XS.for [2, 3] (XI.zip ?_)
  walk_at "go"
  refine XSl.tup ?_
  walk_at "go"
  rw [cutD_tail]
  refine ⟨_, _, _, _, rfl, .inr ⟨rfl, rfl⟩, fun i ds M => (∃ y z, ds = [some (.tup (ks.map dKn)), some (.raw p), y, z]) ∧ M = [(p, .lst (((slopesI ks).take i).map dQ))], ⟨⟨_, _, rfl⟩, rfl⟩, ?_, ?_⟩
  · rintro i x _ M hx ⟨⟨y, z, rfl⟩, rfl⟩
    obtain ⟨a, c, ha, hc, rfl⟩ := zipD_get hx
    rw [List.getElem?_drop, Nat.add_comm] at hc
    obtain ⟨ka, hka, rfl⟩ := map_get ha
    obtain ⟨kc, hkc, rfl⟩ := map_get hc
    have hlt : ka.1 < kc.1 := hA i ka kc hka hkc
    walk_at "go"
    refine XE.bm ?_
    walk_at "go"
    refine ⟨ty_lst (.raw .hd), ?_⟩
    walk_at "go"
    walk_at "call"
    walk_at "go"
    walk_at "call"
    walk_at "go"
    refine ⟨rfl, kc.2, ka.2, b, rfl, (hB.get hkc).2, (hB.get hka).2, hb0, by omega, ?_⟩
    walk_at "go"
    walk_at "call"
    walk_at "go"
    refine ⟨rfl, kc.1, ka.1, b, rfl, (hB.get hkc).1, (hB.get hka).1, hb0, by omega, ?_⟩
    walk_at "go"
    refine ⟨rfl, _, _, b + b + 1, rfl, (hB.get hkc).2.sub (hB.get hka).2, (hB.get hkc).1.sub (hB.get hka).1, by omega, by omega, sub_ne hlt, ?_⟩
    walk_at "go"
    refine XM.append .hd ?_ ?_
    · rw [List.length_map, List.length_take, slopesI_len]
      omega
    · refine ⟨⟨_, _, rfl⟩, ?_⟩
      rw [take_get (slopesI_get ks i ka kc hka hkc), List.map_append]
      rfl
  · rintro _ M ⟨⟨y, z, rfl⟩, rfl⟩
    have e : (slopesI ks).take (zipD (ks.map dKn) ((ks.map dKn).drop 1)).length = slopesI ks := List.take_of_length_le (by
      unfold zipD
      rw [slopesI_len, List.length_map, List.length_zip, List.length_drop, List.length_map]
      omega)
    rw [e]
    walk_at "go"
    refine XE.lstF ?_
    walk_at "go"
    refine XE.c (d := dQ 0) T.t_ZERO_tables ?_
    walk_at "go"
    refine XR.add_lst (.raw .hd) .lst ?_ ?_
    · rw [List.length_map, slopesI_len]
      show _ + 1 ≤ _
      omega
    · rw [show slopes ks = slopesI ks ++ [0] from rfl, List.map_append] at hk
      exact hk
def turnF (ks : List Kn) : D → Option D
  | .int z => (turnsAt ks (z - 1).toNat).map dKn
  | _ => none
theorem turnF_at (ks : List Kn) (i : Nat) : turnF ks (.int (1 + (i : Nat))) = (turnsAt ks i).map dKn := by
  show (turnsAt ks ((1 : Int) + (i : Nat) - 1).toNat).map dKn = _
  rw [show ((1 : Int) + (i : Nat) - 1).toNat = i by omega]
theorem turnF_all (ks : List Kn) (n : Nat) : (rngD 1 n).filterMap (turnF ks) = ((List.range n).filterMap (turnsAt ks)).map dKn := by
  unfold rngD
  rw [List.filterMap_map, List.map_filterMap]
  congr 1
  funext i
  exact turnF_at ks i
theorem ok_turns_of (T : Txt K mg) : FnOk P w K mg base (L2.CX P w) 5 T.turns_of.a T.turns_of.fd ["points"] (spD K 1 (pur (spl_turns_of))) := by
  refine fn_okP T.turns_of.F sc_turns_of rfl fun cdv A outer s H E hr => ?_
  have nd := sc_turns_of.nd
  have hu64 := hr.units
  have hu65 := hu65_of hr
  have hu1 := hu_of hr
  refine ⟨_, (pss_cons (ps_set (i := 1) nd rfl (by first | exact Or.inl rfl | exact Or.inr rfl) (pe_call (ok_slopes_of T) (hr.mono (by decide)) rfl T.slopes_of.g T.slopes_of.F.kp (b_slopes_of T) .nil px0 (pa_cons (pv 0) pa_nil)))
      (pss_one (ps_ret (pe_op (op_addK (K := K) rfl) (pe_slice (sl_K (K := K) rfl) (pv 0) po_none (po_some pe_int)) (pe_callTy (cr_tupK (K := K) rfl) (by rfl) T.m_tuple boot_tuple (pa_cons (pe_lc (own := [("at", 2)]) (g := gName 2) (by rfl) nd (pi_range2 rfl T.m_range (pa_cons pe_int (pa_cons (pe_callB (cr_lenK (K := K) rfl) (by rfl) T.m_len PySem.boot_len (pa_cons (pv 0) pa_nil)) pa_nil))) (blkOk_by (N := N_turns_of) (sc := defScope s_turns_of) (by decide +kernel)) (fun _ _ _ _ _ => (pg_name (i := 2) nd rfl (by first | exact Or.inl rfl | exact Or.inr rfl))) (fun _ _ _ _ _ => (pts_one (pt_cmpR (op_neK (K := K) rfl hu64) (pe_ix (ix_K (K := K) rfl) (pv 1) (pv 2) (fun _ _ => rfl)) (pe_ix (ix_K (K := K) rfl) (pv 1) (pe_op op_sub (pv 2) pe_int) (fun _ _ => rfl)) (nomark _)))) (fun _ _ _ _ _ => (pe_ix (ix_K (K := K) rfl) (pv 0) (pv 2) (fun _ _ => rfl)))) pa_nil)))))), fun ds kk xx hl h => ?_⟩
  try dsimp only [cxOf]
  obtain ⟨ks, b, rfl, hB, hb0, hb1, hlen, hA, hne, hk⟩ := h
  walk_at "go"
  walk_at "call"
  walk_at "go"
  refine ⟨rfl, ks, b, rfl, hB, hb0, hb1, hlen, hA, ?_⟩
  have hsl := slopes_len hne
  walk_at "go"
  refine XSl.tup ?_
  rw [cutD_head]
  walk_at "go"
  refine XE.lc (turnF ks) (XI.rng2 ?_)
  walk_at "go"
  refine XC.len .tup ?_
  walk_at "go"
  rw [List.length_map]
  refine ⟨⟨by decide, by decide, by omega, by omega⟩, by rw [rngD_len]; omega, fun x hx => ?_, ?_⟩
  · obtain ⟨i, hi⟩ := List.getElem?_of_mem hx
    rw [rngD_get] at hi
    split at hi
    · rename_i hlt
      cases hi
      obtain ⟨ka, hka⟩ : ∃ ka, ks[i + 1]? = some ka := ⟨_, List.getElem?_eq_getElem (show i + 1 < ks.length by omega)⟩
      obtain ⟨qa, hqa⟩ : ∃ qa, (slopes ks)[i + 1]? = some qa := ⟨_, List.getElem?_eq_getElem (show i + 1 < (slopes ks).length by omega)⟩
      obtain ⟨qb, hqb⟩ : ∃ qb, (slopes ks)[i]? = some qb := ⟨_, List.getElem?_eq_getElem (show i < (slopes ks).length by omega)⟩
      have hT : turnsAt ks i = if qa = qb then none else some ka := by
        unfold turnsAt
        rw [hqa, hqb, hka]
        by_cases e : qa = qb
        · rw [if_pos e, if_pos (by rw [e])]
        · rw [if_neg e, if_neg (by intro z; exact e (Option.some.inj z))]
      rw [turnF_at, hT]
      walk_at "go"
      refine XR.ix_lst .lst (at_nat (j := i + 1) (by omega) (get_map hqa)) ?_
      walk_at "go"
      refine XR.ix_lst .lst (at_nat (j := i) (by omega) (get_map hqb)) ?_
      refine XR.ne_dQ ?_
      walk_at "go"
      refine ⟨fun hb => ?_, fun hb => ?_⟩
      · have hne : ¬ qa = qb := by simpa using hb
        walk_at "go"
        refine XR.ix_tup (at_nat (j := i + 1) (by omega) (get_map hka)) ?_
        rw [if_neg hne]
        exact ⟨rfl, rfl⟩
      · have he : qa = qb := by simpa using hb
        rw [if_pos he]
        exact ⟨rfl, rfl⟩
    · cases hi
  · rw [turnF_all]
    refine XA.nil ?_
    refine XC.tup .lst ?_
    refine XR.add_tup ?_ ?_
    · have h1 : ((List.range (ks.length - 1)).filterMap (turnsAt ks)).length ≤ ks.length - 1 := by
        refine Nat.le_trans (List.length_filterMap_le _ _) ?_
        rw [List.length_range]
        exact Nat.le_refl _
      rw [List.length_take, List.length_map, List.length_map]
      have e : ((ks.length : Int) - 1).toNat = ks.length - 1 := by omega
      rw [e]
      omega
    · have e : ((ks.length : Int) - 1).toNat = ks.length - 1 := by omega
      rw [e, ← List.map_take, ← List.map_append]
      exact hk
end
end My

namespace My
open PySem L2 DL PyProof.Rows
local macro_rules | `(tactic| walk_at "go") => `(tactic| repeat (first
  | ((with_reducible refine idE ?_); first
    | ((with_reducible apply XE.var); · exact rfl)
    | (with_reducible first
      | refine XE.op ?_
      | refine XE.int ?_
      | refine XE.str ?_
      | refine XE.ite ?_
      | refine XE.cb ?_
      | refine XE.tup ?_
      | refine XE.bl ?_
      | refine XE.non ?_
      | refine XE.ty ?_
      | refine XE.un ?_
      | refine XE.andV ?_
      | refine XE.orV ?_
      | refine XE.notV ?_
      | refine XE.slice ?_
      | refine XE.chain ?_))
  | ((with_reducible refine idA ?_); with_reducible first
      | refine XA.nil ?_
      | refine XA.cons ?_)
  | ((with_reducible refine idR ?_); first
      | (with_reducible first
        | refine XR.add_int ?_
        | refine XR.eq_int ?_
        | refine XR.ne_int ?_
        | refine XR.i0 ?_
        | refine XR.b0 ?_
        | refine XR.isN ?_
        | refine XR.ntN ?_)
      | refine XR.ix_tup rfl ?_
      | refine XR.ix_lst (by first | exact LsAt.lst | exact LsAt.raw At.hd) rfl ?_)
  | ((with_reducible refine idS ?_); with_reducible first
      | refine XS.seq ?_
      | refine XS.asg ?_
      | refine XS.ret ?_
      | refine XS.ifs ?_
      | refine XS.next ?_
      | refine XS.drop ?_
      | refine XS.par ?_)
  | ((with_reducible refine idT ?_); with_reducible first
      | refine XT.tst ?_
      | refine XT.bool ?_
      | refine XT.and ?_
      | refine XT.or ?_
      | refine XT.not ?_)
  | with_reducible refine ex1 ?_
  | refine pickF rfl ?_
  | refine pickT rfl ?_
  | ((with_reducible refine idO ?_); with_reducible first
      | refine XO.none ?_
      | refine XO.some ?_)
  | ((with_reducible refine idGs ?_); with_reducible first
      | refine XGs.nil ?_
      | refine XGs.cons ?_)
  | ((with_reducible refine idG ?_); with_reducible first
      | refine XG.name (by simp) ?_
      | refine XG.tup rfl ?_)
  | with_reducible refine XC.abs ?_
  | with_reducible refine XU.neg ?_
  | refine ⟨_, _, rfl, ?_⟩
  | refine ⟨_, rfl, ?_⟩
  | refine ⟨show (_ : Nat) + 1 ≤ 16000000 by simp only [List.length_cons, List.length_nil] <;> decide, ?_⟩
  | dsimp only))
local macro_rules | `(tactic| walk_at "sp") => `(tactic| first | refine ⟨[], _, rfl, rfl, ?_⟩ | refine ⟨rfl, ?_⟩)

def tabF (ks : List Kn) : List (Str × D) := [("points", .tup (ks.map dKn)), ("turns", .tup ((turns ks).map dKn))]
theorem dTab_eq (C : Addr) (ks : List Kn) : dTab C ks = .ins C (tabF ks) := rfl
def Good (ks : List Kn) : Prop := ks ≠ [] ∧ Asc ks ∧ ks.length ≤ 40
def sp_Timetable_init (C : Addr) : DSp := fun ds M k _ => ∃ (p : Addr) (v : D) (ks : List Kn) (b : Nat), ds = [.raw p, v] ∧ M = [(p, .ins C [])] ∧ (v = .lst (ks.map dKn) ∨ v = .tup (ks.map dKn)) ∧ BKs b ks ∧ 0 < b ∧ b ≤ 1000 ∧ Good ks ∧ k .non [(p, .ins C (tabF ks))]
theorem mo_Timetable_init (C : Addr) : MonoD (sp_Timetable_init C) := fun _ _ _ _ _ _ hk _ ⟨p, v, ks, b, e, e2, h1, h2, h3, h4, h5, q⟩ => ⟨p, v, ks, b, e, e2, h1, h2, h3, h4, h5, hk _ _ q⟩
def spl_Timetable_knots (C : Addr) : PSp := fun ds k _ => ∃ (ks : List Kn), ds = [dTab C ks] ∧ k (.lst (ks.map dKn))
theorem mo_Timetable_knots (C : Addr) : MonoP (spl_Timetable_knots C) := fun _ _ _ _ _ hk _ ⟨ks, e, q⟩ => ⟨ks, e, hk _ q⟩
local macro_rules | `(tactic| walk_at "mo") => `(tactic| first | exact mo_is_whole | exact mo_common_divisor | exact mo_is_less | exact mo_rest_of | exact mo_share_of | exact mo_sum_of | exact mo_is_fraction | exact mo_is_knot | exact mo_are_knots | exact mo_slopes_of | exact mo_turns_of)
local macro_rules | `(tactic| walk_at "call") => `(tactic| (refine XE.callP (by walk_at "mo") (fun _ => rfl) (dD := []) (fun _ => .nil) ?_))
theorem put_points (y : D) : putD "points" y [] = ([("points", y)] : List (Str × D)) := rfl
theorem put_turns (y z : D) : putD "turns" z ([("points", y)] : List (Str × D)) = ([("points", y), ("turns", z)] : List (Str × D)) := by
  unfold putD
  rw [if_neg (by decide)]
  rfl
section
variable {P : Program} {w : World} {K : PySem.W.Frag} {mg : Str → Option Value} {base : Heap}
theorem ok_Timetable_init (T : Txt K mg) : FnOk P w K mg base (L2.CX P w) 6 T.Timetable_init.a T.Timetable_init.fd ["self", "knots"] (spD K 2 (sp_Timetable_init T.C_Timetable)) := by
  refine fn_okD T.Timetable_init.F sc_Timetable_init rfl fun cdv A outer s H E hr => ?_
  have nd := sc_Timetable_init.nd
  have hu64 := hr.units
  have hu65 := hu65_of hr
  have hu1 := hu_of hr
  refine ⟨_, (pss_cons (ps_if (PW.pt (pw_or (pt_not (pt_val (pe_call (ok_are_knots T) (hr.mono (by decide)) rfl T.are_knots.g T.are_knots.F.kp (b_are_knots T) .nil px0 (pa_cons (pv 1) pa_nil)))) (pw_or1 (pt_cmpR op_gt (pe_callB (cr_lenK (K := K) rfl) (by rfl) T.m_len PySem.boot_len (pa_cons (pv 1) pa_nil)) (pe_conK (K := K) rfl (pv 0) rfl) (nomark _)))))
      (pss_one ps_never)
      pss_nil)
      (pss_cons (ps_fldK (K := K) rfl (pv 0) (pe_callTy (cr_tupK (K := K) rfl) (by rfl) T.m_tuple boot_tuple (pa_cons (pv 1) pa_nil)) rfl)
      (pss_one (ps_fldK (K := K) rfl (pv 0) (pe_call (ok_turns_of T) (hr.mono (by decide)) rfl T.turns_of.g T.turns_of.F.kp (b_turns_of T) .nil px0 (pa_cons (pe_fldK (K := K) rfl (pv 0) rfl) pa_nil)) rfl)))), fun ds M kk xx hl h => ?_⟩
  try dsimp only [cxOf]
  obtain ⟨p, v, ks, b, rfl, rfl, hv, hB, hb0, hb1, ⟨hg1, hg2, hg3⟩, hk⟩ := h
  have sq : ∀ M, SqAt M v (ks.map dKn) := fun M => by
    rcases hv with rfl | rfl
    · exact .lst
    · exact .tup
  walk_at "go"
  walk_at "call"
  walk_at "go"
  refine ⟨rfl, v, ks, b, rfl, hv, hB, hb0, by omega, by omega, fun r hr => ?_⟩
  have hr' : r = true := hr.mpr ⟨hg1, hg2⟩
  subst hr'
  walk_at "go"
  refine XC.len (sq _) ?_
  walk_at "go"
  refine XE.con ?_
  walk_at "go"
  obtain ⟨u, hu⟩ := T.con_Timetable_MOST
  refine ⟨_, _, _, u, .int 40, .raw .hd, T.cl_Timetable, hu, rfl, fun _ => .int 40, ?_⟩
  walk_at "go"
  refine pickF ?_ ?_
  · rw [List.length_map]
    simp
    omega
  walk_at "go"
  refine XS.fld ?_
  walk_at "go"
  refine XC.tup (sq _) ?_
  walk_at "go"
  refine ⟨p, _, _, _, rfl, .hd, T.cl_Timetable, T.na_Timetable_points, by decide, ?_⟩
  rw [put_points]
  walk_at "go"
  refine XS.fld ?_
  walk_at "call"
  walk_at "go"
  refine XE.fld ?_
  walk_at "go"
  refine ⟨_, _, _, .raw .hd, T.cl_Timetable, T.na_Timetable_points, rfl, ?_⟩
  walk_at "go"
  refine ⟨rfl, ks, b, rfl, hB, hb0, hb1, by omega, hg2, hg1, ?_⟩
  walk_at "go"
  refine ⟨p, _, _, _, rfl, .hd, T.cl_Timetable, T.na_Timetable_turns, by simp, ?_⟩
  rw [put_turns]
  exact hk
end
end My

namespace My
open PySem L2 DL PyProof.Rows
local macro_rules | `(tactic| walk_at "bq") => `(tactic| first | exact BQ.mono (by assumption) (by decide) | exact BQ.mono (BQ.sub (by assumption) (by assumption)) (by decide) | exact BQ.mono (BQ.add (by assumption) (by assumption)) (by decide) | exact BQ.mono (BQ.mul (by assumption) (by assumption)) (by decide))
structure Kt (ks : List Kn) : Prop where
  good : Good ks
  B : BKs 200 ks
theorem Kt.ne {ks : List Kn} (h : Kt ks) : ks ≠ [] := h.good.1
theorem Kt.asc {ks : List Kn} (h : Kt ks) : Asc ks := h.good.2.1
theorem Kt.len {ks : List Kn} (h : Kt ks) : ks.length ≤ 40 := h.good.2.2
theorem Kt.pos {ks : List Kn} {t : Rat} (h : Kt ks) (ht : BQ 200 t) : BQ 1404 (posAt ks t) := (posAt_B h.asc h.B ht).mono (by decide)
theorem Kt.pace {ks : List Kn} (h : Kt ks) (t : Rat) : BQ 802 (paceAt ks t) := (paceAt_B h.asc h.B).mono (by decide)
theorem Kt.get0 {ks : List Kn} (h : Kt ks) : ∃ k, ks[0]? = some k ∧ firstT ks = k.1 ∧ firstX ks = k.2 ∧ BQ 200 k.1 ∧ BQ 200 k.2 := by
  have := h.ne
  cases ks with
  | nil => exact absurd rfl this
  | cons k r => exact ⟨k, rfl, rfl, rfl, h.B k (by simp)⟩
theorem Kt.first {ks : List Kn} (h : Kt ks) : BQ 200 (firstT ks) := by
  obtain ⟨k, _, e, _, hb, _⟩ := h.get0
  rw [e]; exact hb
def R_piece_on (ds : List D) (r : D) : Prop := ∃ (ks : List Kn) (t : Rat), ds = [.tup (ks.map dKn), dQ t] ∧ Kt ks ∧ BQ 200 t ∧ firstT ks ≤ t ∧ r = .int (pieceAt ks t : Nat)
def R_pace_on (ds : List D) (r : D) : Prop := ∃ (ks : List Kn) (t : Rat), ds = [.tup (ks.map dKn), dQ t] ∧ Kt ks ∧ BQ 200 t ∧ firstT ks ≤ t ∧ r = dQ (paceAt ks t)
def R_place_on (ds : List D) (r : D) : Prop := ∃ (ks : List Kn) (t : Rat), ds = [.tup (ks.map dKn), dQ t] ∧ Kt ks ∧ BQ 200 t ∧ firstT ks ≤ t ∧ r = dQ (posAt ks t)
theorem u_piece_on {ks : List Kn} {t : Rat} (h : Kt ks) (hb : BQ 200 t) (h1 : firstT ks ≤ t) : R_piece_on [.tup (ks.map dKn), dQ t] (.int (pieceAt ks t : Nat)) := ⟨ks, t, rfl, h, hb, h1, rfl⟩
theorem u_pace_on {ks : List Kn} {t : Rat} (h : Kt ks) (hb : BQ 200 t) (h1 : firstT ks ≤ t) : R_pace_on [.tup (ks.map dKn), dQ t] (dQ (paceAt ks t)) := ⟨ks, t, rfl, h, hb, h1, rfl⟩
theorem u_place_on {ks : List Kn} {t : Rat} (h : Kt ks) (hb : BQ 200 t) (h1 : firstT ks ≤ t) : R_place_on [.tup (ks.map dKn), dQ t] (dQ (posAt ks t)) := ⟨ks, t, rfl, h, hb, h1, rfl⟩
def R_Timetable_begin (C : Addr) (ds : List D) (r : D) : Prop := ∃ (ks : List Kn), ds = [dTab C ks] ∧ Kt ks ∧ r = dQ (firstT ks)
def R_Timetable_at (C : Addr) (ds : List D) (r : D) : Prop := ∃ (ks : List Kn) (t : Rat), ds = [dTab C ks, dQ t] ∧ Kt ks ∧ BQ 200 t ∧ firstT ks ≤ t ∧ r = dQ (posAt ks t)
def R_Timetable_pace (C : Addr) (ds : List D) (r : D) : Prop := ∃ (ks : List Kn) (t : Rat), ds = [dTab C ks, dQ t] ∧ Kt ks ∧ BQ 200 t ∧ firstT ks ≤ t ∧ r = dQ (paceAt ks t)
theorem u_tbegin {C : Addr} {ks : List Kn} (h : Kt ks) : R_Timetable_begin C [dTab C ks] (dQ (firstT ks)) := ⟨ks, rfl, h, rfl⟩
theorem u_tat {C : Addr} {ks : List Kn} {t : Rat} (h : Kt ks) (hb : BQ 200 t) (h1 : firstT ks ≤ t) : R_Timetable_at C [dTab C ks, dQ t] (dQ (posAt ks t)) := ⟨ks, t, rfl, h, hb, h1, rfl⟩
theorem u_tpace {C : Addr} {ks : List Kn} {t : Rat} (h : Kt ks) (hb : BQ 200 t) (h1 : firstT ks ≤ t) : R_Timetable_pace C [dTab C ks, dQ t] (dQ (paceAt ks t)) := ⟨ks, t, rfl, h, hb, h1, rfl⟩
local macro_rules | `(tactic| walk_at "go") => `(tactic| repeat (first
  | ((with_reducible refine idE ?_); first
    | ((with_reducible apply XE.var); · exact rfl)
    | (with_reducible first
      | refine XE.op ?_
      | refine XE.int ?_
      | refine XE.str ?_
      | refine XE.ite ?_
      | refine XE.cb ?_
      | refine XE.tup ?_
      | refine XE.bl ?_
      | refine XE.non ?_
      | refine XE.ty ?_
      | refine XE.un ?_
      | refine XE.andV ?_
      | refine XE.orV ?_
      | refine XE.notV ?_
      | refine XE.slice ?_
      | refine XE.chain ?_))
  | ((with_reducible refine idE ?_); (with_reducible refine XE.callP ?_ (fun _ => rfl) (dD := []) (fun _ => .nil) ?_); (focus (first | with_reducible exact mo_R | walk_at "mo")))
  | ((with_reducible refine idE ?_); (with_reducible refine XE.methP ?_ (fun _ => rfl) (dD := []) (fun _ => .nil) ?_); (focus (first | with_reducible exact mo_R | walk_at "mo")))
  | ((with_reducible refine idE ?_); (with_reducible refine XE.callT mo_R (fun _ => rfl) (dD := []) (fun _ => .nil) ?_))
  | ((with_reducible refine idE ?_); (with_reducible refine XE.callNP ?_ (fun _ => rfl) ?_); (focus (first | with_reducible exact mo_R | walk_at "mo")))
  | ((with_reducible refine idE ?_); (with_reducible refine XE.callNTP mo_R (fun _ => rfl) ?_))
  | ((with_reducible refine idA ?_); with_reducible first
      | refine XA.nil ?_
      | refine XA.cons ?_)
  | ((with_reducible refine idR ?_); first
      | (with_reducible first
        | refine XR.add_int ?_
        | refine XR.eq_int ?_
        | refine XR.ne_int ?_
        | refine XR.i0 ?_
        | refine XR.subB ?_
        | refine XR.ne_dQ ?_
        | refine XR.eq_dQ ?_
        | refine XR.b0 ?_
        | refine XR.isN ?_
        | refine XR.ntN ?_)
      | refine XR.ix_tup rfl ?_
      | refine XR.ix_lst (by first | exact LsAt.lst | exact LsAt.raw At.hd) rfl ?_)
  | ((with_reducible refine idS ?_); with_reducible first
      | refine XS.seq ?_
      | refine XS.asg ?_
      | refine XS.ret ?_
      | refine XS.ifs ?_
      | refine XS.next ?_
      | refine XS.drop ?_
      | refine XS.par ?_
      | refine XS.par3 ?_)
  | ((with_reducible refine idT ?_); with_reducible first
      | refine XT.tst ?_
      | refine XT.bool ?_
      | refine XT.and ?_
      | refine XT.or ?_
      | refine XT.not ?_)
  | ((with_reducible refine idT ?_); refine XT.yes ?_)
  | ((with_reducible refine idS ?_); refine XS.aug rfl ?_)
  | with_reducible refine ex1 ?_
  | refine pickF rfl ?_
  | refine pickT rfl ?_
  | ((with_reducible refine idO ?_); with_reducible first
      | refine XO.none ?_
      | refine XO.some ?_)
  | ((with_reducible refine idGs ?_); with_reducible first
      | refine XGs.nil ?_
      | refine XGs.cons ?_)
  | ((with_reducible refine idG ?_); with_reducible first
      | refine XG.name (by simp) ?_
      | refine XG.tup rfl ?_)
  | with_reducible refine XC.abs ?_
  | with_reducible refine XU.neg ?_
  | refine ⟨_, _, rfl, ?_⟩
  | refine ⟨_, _, _, rfl, ?_⟩
  | refine ⟨_, rfl, ?_⟩
  | refine ⟨show (_ : Nat) + 1 ≤ 16000000 by simp only [List.length_cons, List.length_nil] <;> decide, ?_⟩
  | refine ⟨show (0 : Nat) ≤ 16000000 by decide, ?_⟩
  | refine ⟨rfl, rfl, rfl, _, (by walk_at "use"), ?_⟩
  | refine ⟨rfl, rfl, rfl, (by walk_at "tab"), _, (by walk_at "use"), ?_⟩
  | refine ⟨rfl, (by walk_at "tab"), _, (by walk_at "use"), ?_⟩
  | refine ⟨_, .ins, rfl, ?_⟩
  | ((refine ⟨rfl, ?_⟩); (with_reducible refine u_is_lessA ?_ ?_ ?_); (focus walk_at "bq"); (focus walk_at "bq"))
  | ((refine ⟨rfl, ?_⟩); (with_reducible refine u_sum_ofA ?_ ?_ ?_); (focus walk_at "bq"); (focus walk_at "bq"))
  | ((refine ⟨rfl, ?_⟩); (with_reducible refine u_rest_ofA ?_ ?_ ?_); (focus walk_at "bq"); (focus walk_at "bq"))
  | ((refine ⟨rfl, ?_⟩); (with_reducible refine u_product_ofA ?_ ?_ ?_); (focus walk_at "bq"); (focus walk_at "bq"))
  | refine ⟨rfl, _, (by walk_at "use"), ?_⟩
  | dsimp only [List.set_cons_zero, List.set_cons_succ]))
local macro_rules | `(tactic| walk_at "sp") => `(tactic| first | refine ⟨[], _, rfl, rfl, ?_⟩ | refine ⟨rfl, ?_⟩)
local macro_rules | `(tactic| walk_at "tab") => `(tactic| first | exact .hd | exact .tl .hd | exact .tl (.tl .hd) | exact .tl (.tl (.tl .hd)))
local macro_rules | `(tactic| walk_at "sp1") => `(tactic| first | refine ⟨[_], _, rfl, rfl, ?_⟩ | refine ⟨rfl, ?_⟩)
local macro_rules | `(tactic| walk_at "sp2") => `(tactic| first | refine ⟨[_, _], _, rfl, rfl, ?_⟩ | refine ⟨rfl, ?_⟩)

local macro_rules | `(tactic| walk_at "mo") => `(tactic| first | exact mo_is_less | exact mo_sum_of | exact mo_rest_of | exact mo_product_of | exact mo_share_of)
local macro_rules | `(tactic| walk_at "use") => `(tactic| (try dsimp only [List.cons_append, List.nil_append, List.append_nil]); first | ((with_reducible apply u_piece_on) <;> first | assumption | walk_at "bq") | ((with_reducible apply u_pace_on) <;> first | assumption | walk_at "bq") | ((with_reducible apply u_place_on) <;> first | assumption | walk_at "bq") | exact u_piece_on (by assumption) (by assumption) (by assumption) | exact u_pace_on (by assumption) (by assumption) (by assumption) | exact u_place_on (by assumption) (by assumption) (by assumption))
section
variable {P : Program} {w : World} {K : PySem.W.Frag} {mg : Str → Option Value} {base : Heap}
theorem ok_piece_on (T : Txt K mg) : FnOk P w K mg base (L2.CX P w) 2 T.piece_on.a T.piece_on.fd ["points", "t"] (spD K 2 (pur ((spR R_piece_on)))) := by
  refine fn_okP T.piece_on.F sc_piece_on rfl fun cdv A outer s H E hr => ?_
  have nd := sc_piece_on.nd
  have hu64 := hr.units
  have hu65 := hu65_of hr
  have hu1 := hu_of hr
  refine ⟨_, (pss_cons (ps_if (pt_val (pe_call (ok_is_less T) (hr.mono (by decide)) rfl T.is_less.g T.is_less.F.kp (b_is_less T) .nil px0 (pa_cons (pv 1) (pa_cons (pe_ix (ix_K (K := K) rfl) (pe_ix (ix_K (K := K) rfl) (pv 0) pe_int (fun _ _ => rfl)) pe_int (fun _ _ => rfl)) pa_nil))))
      (pss_one ps_never)
      pss_nil)
      (pss_cons (ps_set (i := 2) nd rfl (by first | exact Or.inl rfl | exact Or.inr rfl) pe_int)
      (pss_cons (ps_while (passes_of rfl) (PW.pt (pw_and (pt_cmpR op_lt (pe_op (op_addK (K := K) rfl) (pv 2) pe_int) (pe_callB (cr_lenK (K := K) rfl) (by rfl) T.m_len PySem.boot_len (pa_cons (pv 0) pa_nil)) (nomark _)) (pw_and1 (pt_not (pt_val (pe_call (ok_is_less T) (hr.mono (by decide)) rfl T.is_less.g T.is_less.F.kp (b_is_less T) .nil px0 (pa_cons (pv 1) (pa_cons (pe_ix (ix_K (K := K) rfl) (pe_ix (ix_K (K := K) rfl) (pv 0) (pe_op (op_addK (K := K) rfl) (pv 2) pe_int) (fun _ _ => rfl)) pe_int (fun _ _ => rfl)) pa_nil)))))))) (pss_one (ps_aug (i := 2) nd rfl (by first | exact Or.inl rfl | exact Or.inr rfl) pe_int ip_add)))
      (pss_one (ps_ret (pv 2)))))), fun ds kk xx hl h => ?_⟩
  try dsimp only [cxOf]
  obtain ⟨_, ⟨ks, t, rfl, hK, ht, h0, rfl⟩, hk⟩ := h
  obtain ⟨k0, hk0, e0, _, hb0, _⟩ := hK.get0
  refine XS.seq ?_
  walk_at "go"
  refine XR.ix_tup (at_nat (j := 0) (by omega) (get_map hk0)) ?_
  walk_at "go"
  refine ⟨fun hb => ?_, fun hb => ?_⟩
  · have := of_decide_eq_true hb
    rw [e0] at h0
    exact XS.never (by grind)
  walk_at "go"
  refine XS.while (fun m ds M => ∃ i : Nat, ds = [some (.tup (ks.map dKn)), some (dQ t), some (.int i)] ∧ M = [] ∧ i < ks.length ∧ m = ks.length - i ∧ ∀ j a, 1 ≤ j → j ≤ i → ks[j]? = some a → ¬ t < a.1) ks.length ⟨0, rfl, rfl, ?_, rfl, fun j a h1 h2 => by omega⟩ ?_
  · have := hK.ne
    exact List.length_pos_iff.mpr this
  rintro m _ M ⟨i, rfl, rfl, hi, rfl, hI⟩
  walk_at "go"
  refine XC.len .tup ?_
  walk_at "go"
  rw [List.length_map]
  refine ⟨fun hb => ?_, fun hb => ?_⟩
  · have hi1 : i + 1 < ks.length := by have := of_decide_eq_true hb; omega
    obtain ⟨kn, hkn⟩ : ∃ kn, ks[i + 1]? = some kn := ⟨_, List.getElem?_eq_getElem hi1⟩
    have hbn := (hK.B.get hkn).1
    walk_at "go"
    refine XR.ix_tup (at_nat (j := i + 1) (by omega) (get_map hkn)) ?_
    walk_at "go"
    refine ⟨fun hc => ?_, fun hc => ?_⟩
    · have hlt : ¬ t < kn.1 := by simpa using hc
      walk_at "go"
      refine ⟨ks.length - (i + 1), by omega, i + 1, rfl, rfl, hi1, rfl, fun j a h1 h2 ha => ?_⟩
      by_cases e : j = i + 1
      · subst e
        rw [hkn] at ha
        cases ha
        exact hlt
      · exact hI j a h1 (by omega) ha
    · have hlt : t < kn.1 := by simpa using hc
      walk_at "go"
      rw [piece_step i hK.asc hi1 hI kn hkn hlt] at hk
      exact hk
  · have hi1 : i + 1 = ks.length := by have := of_decide_eq_false hb; omega
    walk_at "go"
    rw [piece_end i hi1 hI] at hk
    exact hk
theorem ok_pace_on (T : Txt K mg) : FnOk P w K mg base (L2.CX P w) 4 T.pace_on.a T.pace_on.fd ["points", "t"] (spD K 2 (pur ((spR R_pace_on)))) := by
  refine fn_okP T.pace_on.F sc_pace_on rfl fun cdv A outer s H E hr => ?_
  have nd := sc_pace_on.nd
  have hu64 := hr.units
  have hu65 := hu65_of hr
  have hu1 := hu_of hr
  refine ⟨_, (pss_cons (ps_set (i := 2) nd rfl (by first | exact Or.inl rfl | exact Or.inr rfl) (pe_call (ok_piece_on T) (hr.mono (by decide)) rfl T.piece_on.g T.piece_on.F.kp (b_piece_on T) .nil px0 (pa_cons (pv 0) (pa_cons (pv 1) pa_nil))))
      (pss_cons (ps_if (pt_cmpR (op_eqK (K := K) rfl hu64) (pe_op (op_addK (K := K) rfl) (pv 2) pe_int) (pe_callB (cr_lenK (K := K) rfl) (by rfl) T.m_len PySem.boot_len (pa_cons (pv 0) pa_nil)) (nomark _))
      (pss_one (ps_ret (pe_glob (v := .ref T.a_ZERO_tables) rfl T.g_ZERO_tables rfl)))
      pss_nil)
      (pss_cons (ps_par (i := 3) (j := 4) rfl nd rfl rfl (by decide) rfl rfl (pa_cons (pe_ix (ix_K (K := K) rfl) (pv 0) (pv 2) (fun _ _ => rfl)) (pa_cons (pe_ix (ix_K (K := K) rfl) (pv 0) (pe_op (op_addK (K := K) rfl) (pv 2) pe_int) (fun _ _ => rfl)) pa_nil)) (by rfl))
      (pss_one (ps_ret (pe_call (ok_share_of T) (hr.mono (by decide)) rfl T.share_of.g T.share_of.F.kp (b_share_of T) .nil px0 (pa_cons (pe_call (ok_rest_of T) (hr.mono (by decide)) rfl T.rest_of.g T.rest_of.F.kp (b_rest_of T) .nil px0 (pa_cons (pe_ix (ix_K (K := K) rfl) (pv 4) pe_int (fun _ _ => rfl)) (pa_cons (pe_ix (ix_K (K := K) rfl) (pv 3) pe_int (fun _ _ => rfl)) pa_nil))) (pa_cons (pe_call (ok_rest_of T) (hr.mono (by decide)) rfl T.rest_of.g T.rest_of.F.kp (b_rest_of T) .nil px0 (pa_cons (pe_ix (ix_K (K := K) rfl) (pv 4) pe_int (fun _ _ => rfl)) (pa_cons (pe_ix (ix_K (K := K) rfl) (pv 3) pe_int (fun _ _ => rfl)) pa_nil))) pa_nil)))))))), fun ds kk xx hl h => ?_⟩
  try dsimp only [cxOf]
  obtain ⟨_, ⟨ks, t, rfl, hK, ht, h0, rfl⟩, hk⟩ := h
  obtain ⟨ka, h1, h2, h3⟩ := piece_ok hK.ne t
  have hlt := pieceAt_lt hK.ne t
  walk_at "go"
  refine XC.len .tup ?_
  walk_at "go"
  rw [List.length_map]
  refine ⟨fun hb => ?_, fun hb => ?_⟩
  · have hb := of_decide_eq_true hb
    have hn : ks[pieceAt ks t + 1]? = none := List.getElem?_eq_none (by omega)
    walk_at "go"
    refine XE.c (d := dQ 0) T.t_ZERO_tables ?_
    rw [(h2 hn).2] at hk
    walk_at "go"
    exact hk
  · have hb := of_decide_eq_false hb
    obtain ⟨kc, hkc⟩ : ∃ kc, ks[pieceAt ks t + 1]? = some kc := ⟨_, List.getElem?_eq_getElem (by omega)⟩
    obtain ⟨h4, h5, h6⟩ := h3 kc hkc
    have hlt2 := hK.asc _ _ _ h1 hkc
    obtain ⟨b1, b2⟩ := hK.B.get h1
    obtain ⟨b3, b4⟩ := hK.B.get hkc
    walk_at "go"
    refine XR.ix_tup (at_nat (j := pieceAt ks t) (by omega) (get_map h1)) ?_
    walk_at "go"
    refine XR.ix_tup (at_nat (j := pieceAt ks t + 1) (by omega) (get_map hkc)) ?_
    walk_at "go"
    refine ⟨rfl, u_share_of (by walk_at "bq") (by walk_at "bq") (sub_ne hlt2) ?_⟩
    rw [h5] at hk
    exact hk
theorem ok_place_on (T : Txt K mg) : FnOk P w K mg base (L2.CX P w) 5 T.place_on.a T.place_on.fd ["points", "t"] (spD K 2 (pur ((spR R_place_on)))) := by
  refine fn_okP T.place_on.F sc_place_on rfl fun cdv A outer s H E hr => ?_
  have nd := sc_place_on.nd
  have hu64 := hr.units
  have hu65 := hu65_of hr
  have hu1 := hu_of hr
  refine ⟨_, (pss_cons (ps_set (i := 2) nd rfl (by first | exact Or.inl rfl | exact Or.inr rfl) (pe_ix (ix_K (K := K) rfl) (pv 0) (pe_call (ok_piece_on T) (hr.mono (by decide)) rfl T.piece_on.g T.piece_on.F.kp (b_piece_on T) .nil px0 (pa_cons (pv 0) (pa_cons (pv 1) pa_nil))) (fun _ _ => rfl)))
      (pss_one (ps_ret (pe_call (ok_sum_of T) (hr.mono (by decide)) rfl T.sum_of.g T.sum_of.F.kp (b_sum_of T) .nil px0 (pa_cons (pe_ix (ix_K (K := K) rfl) (pv 2) pe_int (fun _ _ => rfl)) (pa_cons (pe_call (ok_product_of T) (hr.mono (by decide)) rfl T.product_of.g T.product_of.F.kp (b_product_of T) .nil px0 (pa_cons (pe_call (ok_pace_on T) (hr.mono (by decide)) rfl T.pace_on.g T.pace_on.F.kp (b_pace_on T) .nil px0 (pa_cons (pv 0) (pa_cons (pv 1) pa_nil))) (pa_cons (pe_call (ok_rest_of T) (hr.mono (by decide)) rfl T.rest_of.g T.rest_of.F.kp (b_rest_of T) .nil px0 (pa_cons (pv 1) (pa_cons (pe_ix (ix_K (K := K) rfl) (pv 2) pe_int (fun _ _ => rfl)) pa_nil))) pa_nil))) pa_nil)))))), fun ds kk xx hl h => ?_⟩
  try dsimp only [cxOf]
  obtain ⟨_, ⟨ks, t, rfl, hK, ht, h0, rfl⟩, hk⟩ := h
  obtain ⟨ka, h1, h2, h3⟩ := piece_ok hK.ne t
  have hlt := pieceAt_lt hK.ne t
  obtain ⟨b1, b2⟩ := hK.B.get h1
  have hp := hK.pace t
  have hr : BQ 401 (t - ka.1) := ht.sub b1
  have hm : BQ 1203 (paceAt ks t * (t - ka.1)) := hp.mul hr
  walk_at "go"
  refine XR.ix_tup (at_nat (j := pieceAt ks t) (by omega) (get_map h1)) ?_
  walk_at "go"
  have e : ka.2 + paceAt ks t * (t - ka.1) = posAt ks t := by
    cases hn : ks[pieceAt ks t + 1]? with
    | none =>
      rw [(h2 hn).2, (h2 hn).1]
      grind
    | some kc =>
      obtain ⟨h4, h5, h6⟩ := h3 kc hn
      rw [h5, h6]
  rw [e]
  exact hk
theorem ok_Timetable_begin (T : Txt K mg) : FnOk P w K mg base (L2.CX P w) 1 T.Timetable_begin.a T.Timetable_begin.fd ["self"] (spD K 1 (pur ((spR (R_Timetable_begin T.C_Timetable))))) := by
  refine fn_okP T.Timetable_begin.F sc_Timetable_begin rfl fun cdv A outer s H E hr => ?_
  have nd := sc_Timetable_begin.nd
  have hu64 := hr.units
  have hu65 := hu65_of hr
  have hu1 := hu_of hr
  refine ⟨_, (pss_one (ps_ret (pe_ix (ix_K (K := K) rfl) (pe_ix (ix_K (K := K) rfl) (pe_fldK (K := K) rfl (pv 0) rfl) pe_int (fun _ _ => rfl)) pe_int (fun _ _ => rfl)))), fun ds kk xx hl h => ?_⟩
  try dsimp only [cxOf]
  obtain ⟨_, ⟨ks, rfl, hK, rfl⟩, hk⟩ := h
  obtain ⟨k0, hk0, e0, _⟩ := hK.get0
  walk_at "go"
  refine XE.fld ?_
  walk_at "go"
  refine ⟨_, _, _, .ins, T.cl_Timetable, T.na_Timetable_points, rfl, ?_⟩
  walk_at "go"
  refine XR.ix_tup (at_nat (j := 0) (by omega) (get_map hk0)) ?_
  walk_at "go"
  rw [e0] at hk
  exact hk
theorem ok_Timetable_pace (T : Txt K mg) : FnOk P w K mg base (L2.CX P w) 5 T.Timetable_pace.a T.Timetable_pace.fd ["self", "t"] (spD K 2 (pur ((spR (R_Timetable_pace T.C_Timetable))))) := by
  refine fn_okP T.Timetable_pace.F sc_Timetable_pace rfl fun cdv A outer s H E hr => ?_
  have nd := sc_Timetable_pace.nd
  have hu64 := hr.units
  have hu65 := hu65_of hr
  have hu1 := hu_of hr
  refine ⟨_, (pss_one (ps_ret (pe_call (ok_pace_on T) (hr.mono (by decide)) rfl T.pace_on.g T.pace_on.F.kp (b_pace_on T) .nil px0 (pa_cons (pe_fldK (K := K) rfl (pv 0) rfl) (pa_cons (pv 1) pa_nil))))), fun ds kk xx hl h => ?_⟩
  try dsimp only [cxOf]
  obtain ⟨_, ⟨ks, t, rfl, hK, ht, h0, rfl⟩, hk⟩ := h
  walk_at "go"
  refine XE.fld ?_
  walk_at "go"
  refine ⟨_, _, _, .ins, T.cl_Timetable, T.na_Timetable_points, rfl, ?_⟩
  walk_at "go"
  exact hk
theorem ok_Timetable_at (T : Txt K mg) : FnOk P w K mg base (L2.CX P w) 6 T.Timetable_at.a T.Timetable_at.fd ["self", "t"] (spD K 2 (pur ((spR (R_Timetable_at T.C_Timetable))))) := by
  refine fn_okP T.Timetable_at.F sc_Timetable_at rfl fun cdv A outer s H E hr => ?_
  have nd := sc_Timetable_at.nd
  have hu64 := hr.units
  have hu65 := hu65_of hr
  have hu1 := hu_of hr
  refine ⟨_, (pss_one (ps_ret (pe_call (ok_place_on T) (hr.mono (by decide)) rfl T.place_on.g T.place_on.F.kp (b_place_on T) .nil px0 (pa_cons (pe_fldK (K := K) rfl (pv 0) rfl) (pa_cons (pv 1) pa_nil))))), fun ds kk xx hl h => ?_⟩
  try dsimp only [cxOf]
  obtain ⟨_, ⟨ks, t, rfl, hK, ht, h0, rfl⟩, hk⟩ := h
  walk_at "go"
  refine XE.fld ?_
  walk_at "go"
  refine ⟨_, _, _, .ins, T.cl_Timetable, T.na_Timetable_points, rfl, ?_⟩
  walk_at "go"
  exact hk
end
end My

namespace My
open PySem L2 DL PyProof.Rows
local macro_rules | `(tactic| walk_at "bq") => `(tactic| first | exact BQ.mono (by assumption) (by decide) | exact BQ.mono (BQ.sub (by assumption) (by assumption)) (by decide) | exact BQ.mono (BQ.add (by assumption) (by assumption)) (by decide) | exact BQ.mono (BQ.mul (by assumption) (by assumption)) (by decide))
def dL : Option Int → D
  | none => .non
  | some l => .int l
def LOK (L : Option Int) : Prop := ∀ l, L = some l → 1 ≤ l ∧ B 200 l
/-- two timetables and a time that is not before both have begun -/
structure Tw (ks js : List Kn) (t : Rat) : Prop where
  k1 : Kt ks
  k2 : Kt js
  ht : BQ 200 t
  le : laterB ks js ≤ t
theorem Tw.f1 {ks js : List Kn} {t : Rat} (h : Tw ks js t) : firstT ks ≤ t := by
  have := h.le
  unfold laterB at this
  grind
theorem Tw.f2 {ks js : List Kn} {t : Rat} (h : Tw ks js t) : firstT js ≤ t := by
  have := h.le
  unfold laterB at this
  grind
theorem Tw.gap {ks js : List Kn} {t : Rat} (h : Tw ks js t) : BQ 2809 (gapQ ks js t) := (h.k1.pos h.ht).sub (h.k2.pos h.ht)
theorem Tw.bl {ks js : List Kn} {t : Rat} (h : Tw ks js t) : BQ 200 (laterB ks js) := laterB_B h.k1.first h.k2.first
theorem Tw.last {ks js : List Kn} {t : Rat} (h : Tw ks js t) : Tw ks js (lastT ks js t) := ⟨h.k1, h.k2, lastT_B h.k1.B h.k2.B h.k1.first h.k2.first, lastT_ge ks js t⟩
def R_need_length (ds : List D) (r : D) : Prop := ∃ L, ds = [dL L] ∧ LOK L ∧ r = .non
theorem u_need_length {L : Option Int} (h : LOK L) : R_need_length [dL L] .non := ⟨L, rfl, h, rfl⟩
def R_later_begin (C : Addr) (ds : List D) (r : D) : Prop := ∃ ks js, ds = [dTab C ks, dTab C js] ∧ Kt ks ∧ Kt js ∧ r = dQ (laterB ks js)
theorem u_later_begin {C : Addr} {ks js : List Kn} (h1 : Kt ks) (h2 : Kt js) : R_later_begin C [dTab C ks, dTab C js] (dQ (laterB ks js)) := ⟨ks, js, rfl, h1, h2, rfl⟩
def R_need_times (C : Addr) (ds : List D) (r : D) : Prop := ∃ ks js s u, ds = [dTab C ks, dTab C js, dQ s, dQ u] ∧ Tw ks js s ∧ BQ 200 u ∧ s ≤ u ∧ r = .non
theorem u_need_times {C : Addr} {ks js : List Kn} {s u : Rat} (h : Tw ks js s) (hu : BQ 200 u) (hs : s ≤ u) : R_need_times C [dTab C ks, dTab C js, dQ s, dQ u] .non := ⟨ks, js, s, u, rfl, h, hu, hs, rfl⟩
def R_gap_at (C : Addr) (ds : List D) (r : D) : Prop := ∃ ks js t, ds = [dTab C ks, dTab C js, dQ t] ∧ Tw ks js t ∧ r = dQ (gapQ ks js t)
theorem u_gap_at {C : Addr} {ks js : List Kn} {t : Rat} (h : Tw ks js t) : R_gap_at C [dTab C ks, dTab C js, dQ t] (dQ (gapQ ks js t)) := ⟨ks, js, t, rfl, h, rfl⟩
def R_laps_in (ds : List D) (r : D) : Prop := ∃ g L, ds = [dQ g, dL L] ∧ BQ 2809 g ∧ LOK L ∧ r = .int (lapsIn L g)
theorem u_laps_in {g : Rat} {L : Option Int} (h : BQ 2809 g) (hL : LOK L) : R_laps_in [dQ g, dL L] (.int (lapsIn L g)) := ⟨g, L, rfl, h, hL, rfl⟩
def R_is_contact (ds : List D) (r : D) : Prop := ∃ g L, ds = [dQ g, dL L] ∧ BQ 2809 g ∧ LOK L ∧ r = .bl (isCon L g)
theorem u_is_contact {g : Rat} {L : Option Int} (h : BQ 2809 g) (hL : LOK L) : R_is_contact [dQ g, dL L] (.bl (isCon L g)) := ⟨g, L, rfl, h, hL, rfl⟩
def R_next_turn (C : Addr) (ds : List D) (r : D) : Prop := ∃ ks js t, ds = [dTab C ks, dTab C js, dQ t] ∧ Tw ks js t ∧ r = dO dQ (DL.nextT ks js t)
theorem u_next_turn {C : Addr} {ks js : List Kn} {t : Rat} (h : Tw ks js t) : R_next_turn C [dTab C ks, dTab C js, dQ t] (dO dQ (DL.nextT ks js t)) := ⟨ks, js, t, rfl, h, rfl⟩
def R_last_turn (C : Addr) (ds : List D) (r : D) : Prop := ∃ ks js t, ds = [dTab C ks, dTab C js, dQ t] ∧ Tw ks js t ∧ r = dQ (lastT ks js t)
theorem u_last_turn {C : Addr} {ks js : List Kn} {t : Rat} (h : Tw ks js t) : R_last_turn C [dTab C ks, dTab C js, dQ t] (dQ (lastT ks js t)) := ⟨ks, js, t, rfl, h, rfl⟩
def R_side_before (C : Addr) (ds : List D) (r : D) : Prop := ∃ ks js t, ds = [dTab C ks, dTab C js, dQ t] ∧ Tw ks js t ∧ r = .tup [dQ (sideB ks js t).1, .int (sideB ks js t).2]
theorem u_side_before {C : Addr} {ks js : List Kn} {t : Rat} (h : Tw ks js t) : R_side_before C [dTab C ks, dTab C js, dQ t] (.tup [dQ (sideB ks js t).1, .int (sideB ks js t).2]) := ⟨ks, js, t, rfl, h, rfl⟩
def R_laps_before (C : Addr) (ds : List D) (r : D) : Prop := ∃ ks js t L b, ds = [dTab C ks, dTab C js, dQ t, dL L] ∧ Tw ks js t ∧ LOK L ∧ Two L b ks js ∧ r = .int (lapsB L ks js t)
theorem u_laps_before {C : Addr} {ks js : List Kn} {t b : Rat} {L : Option Int} (h : Tw ks js t) (hL : LOK L) (h2 : Two L b ks js) : R_laps_before C [dTab C ks, dTab C js, dQ t, dL L] (.int (lapsB L ks js t)) := ⟨ks, js, t, L, b, rfl, h, hL, h2, rfl⟩
def R_laps (C : Addr) (ds : List D) (r : D) : Prop := ∃ ks js t L, ds = [dTab C ks, dTab C js, dQ t, dL L] ∧ Tw ks js t ∧ LOK L ∧ r = .int (lapsIn L (gapQ ks js t))
theorem u_laps {C : Addr} {ks js : List Kn} {t : Rat} {L : Option Int} (h : Tw ks js t) (hL : LOK L) : R_laps C [dTab C ks, dTab C js, dQ t, dL L] (.int (lapsIn L (gapQ ks js t))) := ⟨ks, js, t, L, rfl, h, hL, rfl⟩
def spl_crossing_counts (C : Addr) : PSp := fun ds k _ => ∃ ks js s u L b, ds = [dTab C ks, dTab C js, dL L, dQ s, dQ u] ∧ Tw ks js s ∧ BQ 200 u ∧ s ≤ u ∧ LOK L ∧ Two L b ks js ∧ ∀ f g : Int, f - g = lapsB L ks js u - lapsB L ks js s → k (.tup [.int f, .int g])
theorem mo_crossing_counts (C : Addr) : MonoP (spl_crossing_counts C) := fun _ _ _ _ _ hk _ ⟨a, b, c, d, e, f, h1, h2, h3, h4, h5, h6, q⟩ => ⟨a, b, c, d, e, f, h1, h2, h3, h4, h5, h6, fun x y z => hk _ (q x y z)⟩
theorem int_ne {l : Int} (h : 1 ≤ l) : (l : Rat) ≠ 0 := fun z => by
  have : l = 0 := Rat.intCast_inj.mp z
  omega
def noR (_ : List D) (_ : D) : Prop := False
local macro_rules | `(tactic| walk_at "go") => `(tactic| repeat (first
  | ((with_reducible refine idE ?_); first
    | ((with_reducible apply XE.var); · exact rfl)
    | (with_reducible first
      | refine XE.op ?_
      | refine XE.int ?_
      | refine XE.str ?_
      | refine XE.ite ?_
      | refine XE.cb ?_
      | refine XE.tup ?_
      | refine XE.bl ?_
      | refine XE.non ?_
      | refine XE.ty ?_
      | refine XE.un ?_
      | refine XE.andV ?_
      | refine XE.orV ?_
      | refine XE.notV ?_
      | refine XE.slice ?_
      | refine XE.chain ?_))
  | ((with_reducible refine idE ?_); (with_reducible refine XE.callP ?_ (fun _ => rfl) (dD := []) (fun _ => .nil) ?_); (focus (first | with_reducible exact mo_R | walk_at "mo")))
  | ((with_reducible refine idE ?_); (with_reducible refine XE.methP ?_ (fun _ => rfl) (dD := []) (fun _ => .nil) ?_); (focus (first | with_reducible exact mo_R | walk_at "mo")))
  | ((with_reducible refine idE ?_); (with_reducible refine XE.callT mo_R (fun _ => rfl) (dD := []) (fun _ => .nil) ?_))
  | ((with_reducible refine idE ?_); (with_reducible refine XE.callNP ?_ (fun _ => rfl) ?_); (focus (first | with_reducible exact mo_R | walk_at "mo")))
  | ((with_reducible refine idE ?_); (with_reducible refine XE.callNTP mo_R (fun _ => rfl) ?_))
  | ((with_reducible refine idA ?_); with_reducible first
      | refine XA.nil ?_
      | refine XA.cons ?_)
  | ((with_reducible refine idR ?_); first
      | (with_reducible first
        | refine XR.add_int ?_
        | refine XR.eq_int ?_
        | refine XR.ne_int ?_
        | refine XR.i0 ?_
        | refine XR.subB ?_
        | refine XR.ne_dQ ?_
        | refine XR.eq_dQ ?_
        | refine XR.b0 ?_
        | refine XR.isN ?_
        | refine XR.ntN ?_)
      | refine XR.ix_tup rfl ?_
      | refine XR.ix_lst (by first | exact LsAt.lst | exact LsAt.raw At.hd) rfl ?_)
  | ((with_reducible refine idS ?_); with_reducible first
      | refine XS.seq ?_
      | refine XS.asg ?_
      | refine XS.ret ?_
      | refine XS.ifs ?_
      | refine XS.next ?_
      | refine XS.drop ?_
      | refine XS.par ?_
      | refine XS.par3 ?_)
  | ((with_reducible refine idT ?_); with_reducible first
      | refine XT.tst ?_
      | refine XT.bool ?_
      | refine XT.and ?_
      | refine XT.or ?_
      | refine XT.not ?_)
  | ((with_reducible refine idT ?_); refine XT.yes ?_)
  | ((with_reducible refine idS ?_); refine XS.aug rfl ?_)
  | with_reducible refine ex1 ?_
  | refine pickF rfl ?_
  | refine pickT rfl ?_
  | ((with_reducible refine idO ?_); with_reducible first
      | refine XO.none ?_
      | refine XO.some ?_)
  | ((with_reducible refine idGs ?_); with_reducible first
      | refine XGs.nil ?_
      | refine XGs.cons ?_)
  | ((with_reducible refine idG ?_); with_reducible first
      | refine XG.name (by simp) ?_
      | refine XG.tup rfl ?_)
  | with_reducible refine XC.abs ?_
  | with_reducible refine XU.neg ?_
  | refine ⟨_, _, rfl, ?_⟩
  | refine ⟨_, _, _, rfl, ?_⟩
  | refine ⟨_, rfl, ?_⟩
  | refine ⟨show (_ : Nat) + 1 ≤ 16000000 by simp only [List.length_cons, List.length_nil] <;> decide, ?_⟩
  | refine ⟨show (0 : Nat) ≤ 16000000 by decide, ?_⟩
  | refine ⟨rfl, rfl, rfl, _, (by walk_at "use"), ?_⟩
  | refine ⟨rfl, rfl, rfl, (by walk_at "tab"), _, (by walk_at "use"), ?_⟩
  | refine ⟨rfl, (by walk_at "tab"), _, (by walk_at "use"), ?_⟩
  | refine ⟨_, .ins, rfl, ?_⟩
  | ((refine ⟨rfl, ?_⟩); (with_reducible refine u_is_lessA ?_ ?_ ?_); (focus walk_at "bq"); (focus walk_at "bq"))
  | ((refine ⟨rfl, ?_⟩); (with_reducible refine u_sum_ofA ?_ ?_ ?_); (focus walk_at "bq"); (focus walk_at "bq"))
  | ((refine ⟨rfl, ?_⟩); (with_reducible refine u_rest_ofA ?_ ?_ ?_); (focus walk_at "bq"); (focus walk_at "bq"))
  | ((refine ⟨rfl, ?_⟩); (with_reducible refine u_product_ofA ?_ ?_ ?_); (focus walk_at "bq"); (focus walk_at "bq"))
  | refine ⟨rfl, _, (by walk_at "use"), ?_⟩
  | dsimp only [List.set_cons_zero, List.set_cons_succ]))
local macro_rules | `(tactic| walk_at "sp") => `(tactic| first | refine ⟨[], _, rfl, rfl, ?_⟩ | refine ⟨rfl, ?_⟩)
local macro_rules | `(tactic| walk_at "tab") => `(tactic| first | exact .hd | exact .tl .hd | exact .tl (.tl .hd) | exact .tl (.tl (.tl .hd)))
local macro_rules | `(tactic| walk_at "sp1") => `(tactic| first | refine ⟨[_], _, rfl, rfl, ?_⟩ | refine ⟨rfl, ?_⟩)
local macro_rules | `(tactic| walk_at "sp2") => `(tactic| first | refine ⟨[_, _], _, rfl, rfl, ?_⟩ | refine ⟨rfl, ?_⟩)

local macro_rules | `(tactic| walk_at "mo") => `(tactic| first | exact mo_is_less | exact mo_sum_of | exact mo_rest_of | exact mo_product_of | exact mo_share_of | exact mo_is_whole)
local macro_rules | `(tactic| walk_at "use") => `(tactic| (try dsimp only [List.cons_append, List.nil_append, List.append_nil]); first | ((with_reducible apply u_tbegin) <;> first | assumption | walk_at "bq") | ((with_reducible apply u_tat) <;> first | assumption | walk_at "bq") | ((with_reducible apply u_later_begin) <;> first | assumption | walk_at "bq") | ((with_reducible apply u_gap_at) <;> first | assumption | walk_at "bq") | ((with_reducible apply u_laps_in) <;> first | assumption | walk_at "bq") | ((with_reducible apply u_is_contact) <;> first | assumption | walk_at "bq") | ((with_reducible apply u_need_length) <;> first | assumption | walk_at "bq") | ((with_reducible apply u_need_times) <;> first | assumption | walk_at "bq") | ((with_reducible apply u_next_turn) <;> first | assumption | walk_at "bq") | ((with_reducible apply u_last_turn) <;> first | assumption | walk_at "bq") | ((with_reducible apply u_side_before) <;> first | assumption | walk_at "bq") | ((with_reducible apply u_laps_before) <;> first | assumption | walk_at "bq") | ((with_reducible apply u_order_of) <;> first | assumption | walk_at "bq") | exact u_tbegin (by assumption) | exact u_tat (by assumption) (by assumption) (by assumption) | exact u_later_begin (by assumption) (by assumption) | exact u_gap_at (by assumption) | exact u_laps_in (by assumption) (by assumption) | exact u_is_contact (by assumption) (by assumption) | exact u_need_length (by assumption) | exact u_need_times (by assumption) (by assumption) (by assumption) | exact u_next_turn (by assumption) | exact u_last_turn (by assumption) | exact u_side_before (by assumption) | exact u_laps_before (by assumption) (by assumption) (by assumption) | exact u_order_of (by walk_at "bq") (by walk_at "bq"))
section
variable {P : Program} {w : World} {K : PySem.W.Frag} {mg : Str → Option Value} {base : Heap}
theorem ok_need_length (T : Txt K mg) : FnOk P w K mg base (L2.CX P w) 2 T.need_length.a T.need_length.fd ["length"] (spD K 1 (pur ((spR R_need_length)))) := by
  refine fn_okP T.need_length.F sc_need_length rfl fun cdv A outer s H E hr => ?_
  have nd := sc_need_length.nd
  have hu64 := hr.units
  have hu65 := hu65_of hr
  have hu1 := hu_of hr
  refine ⟨_, (pss_one (ps_if (PW.pt (pw_and (pt_cmpR op_ntN' (pv 0) pe_non (nomark _)) (pw_and1 (PW.pt (pw_or (pt_not (pt_val (pe_call (ok_is_whole T) (hr.mono (by decide)) rfl T.is_whole.g T.is_whole.F.kp (b_is_whole T) .nil px0 (pa_cons (pv 0) pa_nil)))) (pw_or1 (pt_cmpR op_lt (pv 0) pe_int (nomark _))))))))
      (pss_one ps_never)
      pss_nil)), fun ds kk xx hl h => ?_⟩
  try dsimp only [cxOf]
  obtain ⟨_, ⟨L, rfl, hL, rfl⟩, hk⟩ := h
  cases L with
  | none =>
    dsimp only [dL]
    walk_at "go"
    exact hk
  | some l =>
    obtain ⟨h1, h2⟩ := hL l rfl
    dsimp only [dL]
    walk_at "go"
    refine ⟨rfl, _, rfl, rfl, ?_⟩
    walk_at "go"
    refine ⟨fun hb => ?_, fun hb => ?_⟩
    · have := of_decide_eq_true hb
      omega
    walk_at "go"
    exact hk
theorem ok_later_begin (T : Txt K mg) : FnOk P w K mg base (L2.CX P w) 2 T.later_begin.a T.later_begin.fd ["one", "other"] (spD K 2 (pur ((spR (R_later_begin T.C_Timetable))))) := by
  refine fn_okP T.later_begin.F sc_later_begin rfl fun cdv A outer s H E hr => ?_
  have nd := sc_later_begin.nd
  have hu64 := hr.units
  have hu65 := hu65_of hr
  have hu1 := hu_of hr
  refine ⟨_, (pss_one (ps_ret (pe_ifExp (pt_val (pe_call (ok_is_less T) (hr.mono (by decide)) rfl T.is_less.g T.is_less.F.kp (b_is_less T) .nil px0 (pa_cons (pe_meth0 (pv 0) T.cl_Timetable T.Timetable_begin.me (ok_Timetable_begin T) (hr.mono (by decide)) (b_Timetable_begin T) .nil px0) (pa_cons (pe_meth0 (pv 1) T.cl_Timetable T.Timetable_begin.me (ok_Timetable_begin T) (hr.mono (by decide)) (b_Timetable_begin T) .nil px0) pa_nil)))) (pe_meth0 (pv 1) T.cl_Timetable T.Timetable_begin.me (ok_Timetable_begin T) (hr.mono (by decide)) (b_Timetable_begin T) .nil px0) (pe_meth0 (pv 0) T.cl_Timetable T.Timetable_begin.me (ok_Timetable_begin T) (hr.mono (by decide)) (b_Timetable_begin T) .nil px0)))), fun ds kk xx hl h => ?_⟩
  try dsimp only [cxOf]
  obtain ⟨_, ⟨ks, js, rfl, h1, h2, rfl⟩, hk⟩ := h
  have b1 := h1.first
  have b2 := h2.first
  walk_at "go"
  refine ⟨fun hb => ?_, fun hb => ?_⟩
  · have hb := of_decide_eq_true hb
    walk_at "go"
    have e : laterB ks js = firstT js := if_pos hb
    rw [e] at hk
    exact hk
  · have hb := of_decide_eq_false hb
    walk_at "go"
    have e : laterB ks js = firstT ks := if_neg hb
    rw [e] at hk
    exact hk
theorem ok_need_times (T : Txt K mg) : FnOk P w K mg base (L2.CX P w) 3 T.need_times.a T.need_times.fd ["one", "other", "since", "until"] (spD K 4 (pur ((spR (R_need_times T.C_Timetable))))) := by
  refine fn_okP T.need_times.F sc_need_times rfl fun cdv A outer s H E hr => ?_
  have nd := sc_need_times.nd
  have hu64 := hr.units
  have hu65 := hu65_of hr
  have hu1 := hu_of hr
  refine ⟨_, (pss_one (ps_if (PW.pt (pw_or (pt_val (pe_call (ok_is_less T) (hr.mono (by decide)) rfl T.is_less.g T.is_less.F.kp (b_is_less T) .nil px0 (pa_cons (pv 2) (pa_cons (pe_call (ok_later_begin T) (hr.mono (by decide)) rfl T.later_begin.g T.later_begin.F.kp (b_later_begin T) .nil px0 (pa_cons (pv 0) (pa_cons (pv 1) pa_nil))) pa_nil)))) (pw_or1 (pt_val (pe_call (ok_is_less T) (hr.mono (by decide)) rfl T.is_less.g T.is_less.F.kp (b_is_less T) .nil px0 (pa_cons (pv 3) (pa_cons (pv 2) pa_nil)))))))
      (pss_one ps_never)
      pss_nil)), fun ds kk xx hl h => ?_⟩
  try dsimp only [cxOf]
  obtain ⟨_, ⟨ks, js, s, u, rfl, h1, h2, h3, rfl⟩, hk⟩ := h
  have k1 := h1.k1
  have k2 := h1.k2
  have b1 := h1.bl
  have b2 := h1.ht
  have l1 := h1.le
  walk_at "go"
  refine ⟨fun hb => ?_, fun hb => ?_⟩
  · have := of_decide_eq_true hb
    grind
  walk_at "go"
  refine ⟨fun hb => ?_, fun hb => ?_⟩
  · have := of_decide_eq_true hb
    grind
  walk_at "go"
  exact hk
theorem ok_gap_at (T : Txt K mg) : FnOk P w K mg base (L2.CX P w) 7 T.gap_at.a T.gap_at.fd ["one", "other", "t"] (spD K 3 (pur ((spR (R_gap_at T.C_Timetable))))) := by
  refine fn_okP T.gap_at.F sc_gap_at rfl fun cdv A outer s H E hr => ?_
  have nd := sc_gap_at.nd
  have hu64 := hr.units
  have hu65 := hu65_of hr
  have hu1 := hu_of hr
  refine ⟨_, (pss_one (ps_ret (pe_call (ok_rest_of T) (hr.mono (by decide)) rfl T.rest_of.g T.rest_of.F.kp (b_rest_of T) .nil px0 (pa_cons (pe_meth (pv 0) T.cl_Timetable T.Timetable_at.me (ok_Timetable_at T) (hr.mono (by decide)) (b_Timetable_at T) .nil px0 (pa_cons (pv 2) pa_nil)) (pa_cons (pe_meth (pv 1) T.cl_Timetable T.Timetable_at.me (ok_Timetable_at T) (hr.mono (by decide)) (b_Timetable_at T) .nil px0 (pa_cons (pv 2) pa_nil)) pa_nil))))), fun ds kk xx hl h => ?_⟩
  try dsimp only [cxOf]
  obtain ⟨_, ⟨ks, js, t, rfl, h1, rfl⟩, hk⟩ := h
  have k1 := h1.k1
  have k2 := h1.k2
  have f1 := h1.f1
  have f2 := h1.f2
  have ht := h1.ht
  have p1 := k1.pos ht
  have p2 := k2.pos ht
  walk_at "go"
  exact hk
theorem ok_growth_at (T : Txt K mg) : FnOk P w K mg base (L2.CX P w) 6 T.growth_at.a T.growth_at.fd ["one", "other", "t"] (spD K 3 (pur ((spR noR)))) := by
  refine fn_okP T.growth_at.F sc_growth_at rfl fun cdv A outer s H E hr => ?_
  have nd := sc_growth_at.nd
  have hu64 := hr.units
  have hu65 := hu65_of hr
  have hu1 := hu_of hr
  refine ⟨_, (pss_one (ps_ret (pe_call (ok_rest_of T) (hr.mono (by decide)) rfl T.rest_of.g T.rest_of.F.kp (b_rest_of T) .nil px0 (pa_cons (pe_meth (pv 0) T.cl_Timetable T.Timetable_pace.me (ok_Timetable_pace T) (hr.mono (by decide)) (b_Timetable_pace T) .nil px0 (pa_cons (pv 2) pa_nil)) (pa_cons (pe_meth (pv 1) T.cl_Timetable T.Timetable_pace.me (ok_Timetable_pace T) (hr.mono (by decide)) (b_Timetable_pace T) .nil px0 (pa_cons (pv 2) pa_nil)) pa_nil))))), fun ds kk xx hl h => ?_⟩
  try dsimp only [cxOf]
  obtain ⟨_, h, _⟩ := h
  exact h.elim
theorem ok_laps_in (T : Txt K mg) : FnOk P w K mg base (L2.CX P w) 4 T.laps_in.a T.laps_in.fd ["gap", "length"] (spD K 2 (pur ((spR R_laps_in)))) := by
  refine fn_okP T.laps_in.F sc_laps_in rfl fun cdv A outer s H E hr => ?_
  have nd := sc_laps_in.nd
  have hu64 := hr.units
  have hu65 := hu65_of hr
  have hu1 := hu_of hr
  refine ⟨_, (pss_cons (ps_if (pt_cmpR op_isN' (pv 1) pe_non (nomark _))
      (pss_one (ps_ret (pe_ifExp (pt_cmpR op_ge (pe_ix (ix_K (K := K) rfl) (pv 0) pe_int (fun _ _ => rfl)) pe_int (nomark _)) pe_int (pe_un un_neg pe_int))))
      pss_nil)
      (pss_one (ps_ret (pe_call (ok_floor_of T) (hr.mono (by decide)) rfl T.floor_of.g T.floor_of.F.kp (b_floor_of T) .nil px0 (pa_cons (pe_call (ok_share_of T) (hr.mono (by decide)) rfl T.share_of.g T.share_of.F.kp (b_share_of T) .nil px0 (pa_cons (pv 0) (pa_cons (pe_tup (pa_cons (pv 1) (pa_cons pe_int pa_nil))) pa_nil))) pa_nil))))), fun ds kk xx hl h => ?_⟩
  try dsimp only [cxOf]
  obtain ⟨_, ⟨g, L, rfl, hg, hL, rfl⟩, hk⟩ := h
  cases L with
  | none =>
    dsimp only [dL]
    walk_at "go"
    have e : lapsIn none g = if 0 ≤ g then 0 else -1 := rfl
    rw [e] at hk
    refine ⟨fun hb => ?_, fun hb => ?_⟩
    · have hb := Rat.num_nonneg.mp (of_decide_eq_true hb)
      walk_at "go"
      rw [if_pos hb] at hk
      exact hk
    · have hb : ¬ 0 ≤ g := fun z => of_decide_eq_false hb (Rat.num_nonneg.mpr z)
      walk_at "go"
      rw [if_neg hb] at hk
      exact hk
  | some l =>
    obtain ⟨h1, h2⟩ := hL l rfl
    have h3 := BQ.int h2 (by decide)
    have h4 := int_ne h1
    have h5 : BQ 3009 (g / (l : Rat)) := hg.div h3 h4
    dsimp only [dL]
    walk_at "go"
    refine ⟨rfl, u_share_of (q := (l : Rat)) (by walk_at "bq") (by walk_at "bq") h4 ?_⟩
    walk_at "go"
    refine ⟨rfl, _, u_floor_of (by walk_at "bq"), ?_⟩
    exact hk
theorem ok_is_contact (T : Txt K mg) : FnOk P w K mg base (L2.CX P w) 4 T.is_contact.a T.is_contact.fd ["gap", "length"] (spD K 2 (pur ((spR R_is_contact)))) := by
  refine fn_okP T.is_contact.F sc_is_contact rfl fun cdv A outer s H E hr => ?_
  have nd := sc_is_contact.nd
  have hu64 := hr.units
  have hu65 := hu65_of hr
  have hu1 := hu_of hr
  refine ⟨_, (pss_one (ps_ret (pe_ifExp (pt_cmpR op_isN' (pv 1) pe_non (nomark _)) (pe_cmpR (op_eqK (K := K) rfl hu64) (pe_ix (ix_K (K := K) rfl) (pv 0) pe_int (fun _ _ => rfl)) pe_int (nomark _)) (pe_cmpR (op_eqK (K := K) rfl hu64) (pe_ix (ix_K (K := K) rfl) (pe_call (ok_share_of T) (hr.mono (by decide)) rfl T.share_of.g T.share_of.F.kp (b_share_of T) .nil px0 (pa_cons (pv 0) (pa_cons (pe_tup (pa_cons (pv 1) (pa_cons pe_int pa_nil))) pa_nil))) pe_int (fun _ _ => rfl)) pe_int (nomark _))))), fun ds kk xx hl h => ?_⟩
  try dsimp only [cxOf]
  obtain ⟨_, ⟨g, L, rfl, hg, hL, rfl⟩, hk⟩ := h
  cases L with
  | none =>
    dsimp only [dL]
    walk_at "go"
    have e : decide (g.num = 0) = isCon none g := by
      unfold isCon
      rw [decide_eq_decide]
      exact Rat.num_eq_zero
    rw [e]
    exact hk
  | some l =>
    obtain ⟨h1, h2⟩ := hL l rfl
    have h3 := BQ.int h2 (by decide)
    have h4 := int_ne h1
    dsimp only [dL]
    walk_at "go"
    refine ⟨rfl, u_share_of (q := (l : Rat)) (by walk_at "bq") (by walk_at "bq") h4 ?_⟩
    walk_at "go"
    have e : decide (((g / (l : Rat)).den : Int) = 1) = isCon (some l) g := by
      unfold isCon
      rw [decide_eq_decide]
      omega
    rw [e]
    exact hk
theorem fold_take {α β : Type} {f : α → β → α} {a : α} {xs : List β} {i : Nat} {x : β} (h : xs[i]? = some x) : (xs.take (i + 1)).foldl f a = f ((xs.take i).foldl f a) x := by
  rw [take_get h, List.foldl_append]
  rfl
theorem ok_next_turn (T : Txt K mg) : FnOk P w K mg base (L2.CX P w) 2 T.next_turn.a T.next_turn.fd ["one", "other", "t"] (spD K 3 (pur ((spR (R_next_turn T.C_Timetable))))) := by
  refine fn_okP T.next_turn.F sc_next_turn rfl fun cdv A outer s H E hr => ?_
  have nd := sc_next_turn.nd
  have hu64 := hr.units
  have hu65 := hu65_of hr
  have hu1 := hu_of hr
  refine ⟨_, (pss_cons (ps_set (i := 3) nd rfl (by first | exact Or.inl rfl | exact Or.inr rfl) pe_non)
      (pss_cons (ps_for (passes_of rfl) rfl (pi_K (K := K) rfl (pe_tup (pa_cons (pv 0) (pa_cons (pv 1) pa_nil)))) (pg_name (i := 4) nd rfl (by first | exact Or.inl rfl | exact Or.inr rfl))
      (pss_one (ps_for (passes_of rfl) rfl (pi_K (K := K) rfl (pe_fldK (K := K) rfl (pv 4) rfl)) (pg_tupK (K := K) (n := 2) rfl rfl (pgs_cons (pg_name (i := 5) nd rfl (by first | exact Or.inl rfl | exact Or.inr rfl)) (pgs_cons (pg_name (i := 6) nd rfl (by first | exact Or.inl rfl | exact Or.inr rfl)) pgs_nil)))
      (pss_one (ps_if (PW.pt (pw_and (pt_val (pe_call (ok_is_less T) (hr.mono (by decide)) rfl T.is_less.g T.is_less.F.kp (b_is_less T) .nil px0 (pa_cons (pv 2) (pa_cons (pv 5) pa_nil)))) (pw_and1 (PW.pt (pw_or (pt_cmpR op_isN' (pv 3) pe_non (nomark _)) (pw_or1 (pt_val (pe_call (ok_is_less T) (hr.mono (by decide)) rfl T.is_less.g T.is_less.F.kp (b_is_less T) .nil px0 (pa_cons (pv 5) (pa_cons (pv 3) pa_nil))))))))))
      (pss_one (ps_set (i := 3) nd rfl (by first | exact Or.inl rfl | exact Or.inr rfl) (pv 5)))
      pss_nil)))))
      (pss_one (ps_ret (pv 3))))), fun ds kk xx hl h => ?_⟩
  try dsimp only [cxOf]
  obtain ⟨_, ⟨ks, js, t, rfl, h1, rfl⟩, hk⟩ := h
  have ht := h1.ht
  have bt : ∀ (tb : List Kn) (k : Kn), tb ∈ [ks, js] → k ∈ turns tb → BQ 200 k.1 := fun tb k h2 h3 => by
    rcases List.mem_cons.mp h2 with rfl | h2
    · exact (h1.k1.B k (turns_sub h3)).1
    · rw [List.mem_singleton.mp h2] at h3
      exact (h1.k2.B k (turns_sub h3)).1
  walk_at "go"
  refine XS.for [4] (XI.U ?_)
  walk_at "go"
  refine ⟨_, .tup, fun i ds M => (∃ acc a b c, ds = [some (dTab T.C_Timetable ks), some (dTab T.C_Timetable js), some (dQ t), some (dO dQ acc), a, b, c] ∧ (∀ y, acc = some y → BQ 200 y) ∧ acc = ((([ks, js].take i).flatMap turns).map (·.1)).foldl (nextF t) none) ∧ M = [], ⟨⟨none, _, _, _, rfl, fun y z => by (cases z), rfl⟩, rfl⟩, ?_, ?_⟩
  · rintro i x _ M hx ⟨⟨acc, a, b, c, rfl, hacc, hfold⟩, rfl⟩
    obtain ⟨tb, htb, rfl⟩ : ∃ tb, [ks, js][i]? = some tb ∧ x = dTab T.C_Timetable tb := by
      match i, hx with
      | 0, hx => exact ⟨ks, rfl, (Option.some.inj hx).symm⟩
      | 1, hx => exact ⟨js, rfl, (Option.some.inj hx).symm⟩
    walk_at "go"
    refine XS.for [5, 6] (XI.U ?_)
    refine XE.fld ?_
    walk_at "go"
    refine ⟨_, _, _, .ins, T.cl_Timetable, T.na_Timetable_turns, rfl, ?_⟩
    refine ⟨_, .tup, fun j ds M => (∃ acc2 b c, ds = [some (dTab T.C_Timetable ks), some (dTab T.C_Timetable js), some (dQ t), some (dO dQ acc2), some (dTab T.C_Timetable tb), b, c] ∧ (∀ y, acc2 = some y → BQ 200 y) ∧ acc2 = (((turns tb).take j).map (·.1)).foldl (nextF t) acc) ∧ M = [], ⟨⟨acc, _, _, rfl, hacc, rfl⟩, rfl⟩, ?_, ?_⟩
    · rintro j x _ M hx ⟨⟨acc2, b, c, rfl, hacc2, hfold2⟩, rfl⟩
      obtain ⟨kn, hkn, rfl⟩ := map_get hx
      have hb1 := bt tb kn (List.mem_of_getElem? htb) (List.mem_of_getElem? hkn)
      dsimp only [dKn]
      walk_at "go"
      have st : ∀ r : Option Rat, nextF t acc2 kn.1 = r → (∀ y, r = some y → BQ 200 y) ∧ r = (((turns tb).take (j + 1)).map (·.1)).foldl (nextF t) acc := fun r hr => by
        refine ⟨fun y hy => ?_, ?_⟩
        · rw [hy] at hr
          unfold nextF at hr
          split at hr
          · cases hr; exact hb1
          · exact hacc2 y hr
        · rw [take_get hkn, List.map_append, List.foldl_append, ← hfold2]
          exact hr.symm
      refine ⟨fun hb => ?_, fun hb => ?_⟩
      · have hb := of_decide_eq_true hb
        cases acc2 with
        | none =>
          dsimp only [dO]
          walk_at "go"
          exact ⟨⟨some kn.1, _, _, rfl, st _ (if_pos ⟨hb, fun a z => by cases z⟩)⟩, rfl⟩
        | some y =>
          have hy := hacc2 y rfl
          dsimp only [dO]
          walk_at "go"
          refine ⟨fun hc => ?_, fun hc => ?_⟩
          · have hc := of_decide_eq_true hc
            walk_at "go"
            exact ⟨⟨some kn.1, _, _, rfl, st _ (if_pos ⟨hb, fun a z => by cases z; exact hc⟩)⟩, rfl⟩
          · have hc := of_decide_eq_false hc
            walk_at "go"
            exact ⟨⟨some y, _, _, rfl, st _ (if_neg fun z => hc (z.2 y rfl))⟩, rfl⟩
      · have hb := of_decide_eq_false hb
        walk_at "go"
        exact ⟨⟨acc2, _, _, rfl, st _ (if_neg fun z => hb z.1)⟩, rfl⟩
    · rintro _ M ⟨⟨acc2, b, c, rfl, hacc2, hfold2⟩, rfl⟩
      refine ⟨⟨acc2, _, _, _, rfl, hacc2, ?_⟩, rfl⟩
      rw [List.length_map, List.take_length] at hfold2
      rw [take_get htb, List.flatMap_append, List.map_append, List.foldl_append, ← hfold, hfold2]
      simp
  · rintro _ M ⟨⟨acc, a, b, c, rfl, hacc, hfold⟩, rfl⟩
    walk_at "go"
    have e : acc = DL.nextT ks js t := by
      rw [hfold]
      unfold DL.nextT tt
      simp
    rw [e]
    exact hk
theorem ok_last_turn (T : Txt K mg) : FnOk P w K mg base (L2.CX P w) 3 T.last_turn.a T.last_turn.fd ["one", "other", "t"] (spD K 3 (pur ((spR (R_last_turn T.C_Timetable))))) := by
  refine fn_okP T.last_turn.F sc_last_turn rfl fun cdv A outer s H E hr => ?_
  have nd := sc_last_turn.nd
  have hu64 := hr.units
  have hu65 := hu65_of hr
  have hu1 := hu_of hr
  refine ⟨_, (pss_cons (ps_set (i := 3) nd rfl (by first | exact Or.inl rfl | exact Or.inr rfl) (pe_call (ok_later_begin T) (hr.mono (by decide)) rfl T.later_begin.g T.later_begin.F.kp (b_later_begin T) .nil px0 (pa_cons (pv 0) (pa_cons (pv 1) pa_nil))))
      (pss_cons (ps_for (passes_of rfl) rfl (pi_K (K := K) rfl (pe_tup (pa_cons (pv 0) (pa_cons (pv 1) pa_nil)))) (pg_name (i := 4) nd rfl (by first | exact Or.inl rfl | exact Or.inr rfl))
      (pss_one (ps_for (passes_of rfl) rfl (pi_K (K := K) rfl (pe_fldK (K := K) rfl (pv 4) rfl)) (pg_tupK (K := K) (n := 2) rfl rfl (pgs_cons (pg_name (i := 5) nd rfl (by first | exact Or.inl rfl | exact Or.inr rfl)) (pgs_cons (pg_name (i := 6) nd rfl (by first | exact Or.inl rfl | exact Or.inr rfl)) pgs_nil)))
      (pss_one (ps_if (PW.pt (pw_and (pt_val (pe_call (ok_is_less T) (hr.mono (by decide)) rfl T.is_less.g T.is_less.F.kp (b_is_less T) .nil px0 (pa_cons (pv 5) (pa_cons (pv 2) pa_nil)))) (pw_and1 (pt_val (pe_call (ok_is_less T) (hr.mono (by decide)) rfl T.is_less.g T.is_less.F.kp (b_is_less T) .nil px0 (pa_cons (pv 3) (pa_cons (pv 5) pa_nil)))))))
      (pss_one (ps_set (i := 3) nd rfl (by first | exact Or.inl rfl | exact Or.inr rfl) (pv 5)))
      pss_nil)))))
      (pss_one (ps_ret (pv 3))))), fun ds kk xx hl h => ?_⟩
  try dsimp only [cxOf]
  obtain ⟨_, ⟨ks, js, t, rfl, h1, rfl⟩, hk⟩ := h
  have ht := h1.ht
  have k1 := h1.k1
  have k2 := h1.k2
  have bt : ∀ (tb : List Kn) (k : Kn), tb ∈ [ks, js] → k ∈ turns tb → BQ 200 k.1 := fun tb k h2 h3 => by
    rcases List.mem_cons.mp h2 with rfl | h2
    · exact (h1.k1.B k (turns_sub h3)).1
    · rw [List.mem_singleton.mp h2] at h3
      exact (h1.k2.B k (turns_sub h3)).1
  walk_at "go"
  refine XS.for [4] (XI.U ?_)
  walk_at "go"
  refine ⟨_, .tup, fun i ds M => (∃ acc a b c, ds = [some (dTab T.C_Timetable ks), some (dTab T.C_Timetable js), some (dQ t), some (dQ acc), a, b, c] ∧ BQ 200 acc ∧ acc = ((([ks, js].take i).flatMap turns).map (·.1)).foldl (lastF t) (laterB ks js)) ∧ M = [], ⟨⟨_, _, _, _, rfl, h1.bl, rfl⟩, rfl⟩, ?_, ?_⟩
  · rintro i x _ M hx ⟨⟨acc, a, b, c, rfl, hacc, hfold⟩, rfl⟩
    obtain ⟨tb, htb, rfl⟩ : ∃ tb, [ks, js][i]? = some tb ∧ x = dTab T.C_Timetable tb := by
      match i, hx with
      | 0, hx => exact ⟨ks, rfl, (Option.some.inj hx).symm⟩
      | 1, hx => exact ⟨js, rfl, (Option.some.inj hx).symm⟩
    walk_at "go"
    refine XS.for [5, 6] (XI.U ?_)
    refine XE.fld ?_
    walk_at "go"
    refine ⟨_, _, _, .ins, T.cl_Timetable, T.na_Timetable_turns, rfl, ?_⟩
    refine ⟨_, .tup, fun j ds M => (∃ acc2 b c, ds = [some (dTab T.C_Timetable ks), some (dTab T.C_Timetable js), some (dQ t), some (dQ acc2), some (dTab T.C_Timetable tb), b, c] ∧ BQ 200 acc2 ∧ acc2 = (((turns tb).take j).map (·.1)).foldl (lastF t) acc) ∧ M = [], ⟨⟨acc, _, _, rfl, hacc, rfl⟩, rfl⟩, ?_, ?_⟩
    · rintro j x _ M hx ⟨⟨acc2, b, c, rfl, hacc2, hfold2⟩, rfl⟩
      obtain ⟨kn, hkn, rfl⟩ := map_get hx
      have hb1 := bt tb kn (List.mem_of_getElem? htb) (List.mem_of_getElem? hkn)
      dsimp only [dKn]
      walk_at "go"
      have st : lastF t acc2 kn.1 = (((turns tb).take (j + 1)).map (·.1)).foldl (lastF t) acc := by
        rw [take_get hkn, List.map_append, List.foldl_append, ← hfold2]
        rfl
      refine ⟨fun hb => ?_, fun hb => ?_⟩
      · have hb := of_decide_eq_true hb
        walk_at "go"
        refine ⟨fun hc => ?_, fun hc => ?_⟩
        · have hc := of_decide_eq_true hc
          have e : lastF t acc2 kn.1 = kn.1 := if_pos ⟨hb, hc⟩
          walk_at "go"
          exact ⟨⟨kn.1, _, _, rfl, hb1, e.symm.trans st⟩, rfl⟩
        · have hc := of_decide_eq_false hc
          have e : lastF t acc2 kn.1 = acc2 := if_neg fun z => hc z.2
          walk_at "go"
          exact ⟨⟨acc2, _, _, rfl, hacc2, e.symm.trans st⟩, rfl⟩
      · have hb := of_decide_eq_false hb
        have e : lastF t acc2 kn.1 = acc2 := if_neg fun z => hb z.1
        walk_at "go"
        exact ⟨⟨acc2, _, _, rfl, hacc2, e.symm.trans st⟩, rfl⟩
    · rintro _ M ⟨⟨acc2, b, c, rfl, hacc2, hfold2⟩, rfl⟩
      refine ⟨⟨acc2, _, _, _, rfl, hacc2, ?_⟩, rfl⟩
      rw [List.length_map, List.take_length] at hfold2
      rw [take_get htb, List.flatMap_append, List.map_append, List.foldl_append, ← hfold, hfold2]
      simp
  · rintro _ M ⟨⟨acc, a, b, c, rfl, hacc, hfold⟩, rfl⟩
    walk_at "go"
    have e : acc = lastT ks js t := by
      rw [hfold]
      unfold lastT tt
      simp
    rw [e]
    exact hk
theorem ok_side_before (T : Txt K mg) : FnOk P w K mg base (L2.CX P w) 8 T.side_before.a T.side_before.fd ["one", "other", "t"] (spD K 3 (pur ((spR (R_side_before T.C_Timetable))))) := by
  refine fn_okP T.side_before.F sc_side_before rfl fun cdv A outer s H E hr => ?_
  have nd := sc_side_before.nd
  have hu64 := hr.units
  have hu65 := hu65_of hr
  have hu1 := hu_of hr
  refine ⟨_, (pss_cons (ps_par (i := 3) (j := 4) rfl nd rfl rfl (by decide) rfl rfl (pa_cons (pe_call (ok_gap_at T) (hr.mono (by decide)) rfl T.gap_at.g T.gap_at.F.kp (b_gap_at T) .nil px0 (pa_cons (pv 0) (pa_cons (pv 1) (pa_cons (pv 2) pa_nil)))) (pa_cons (pe_call (ok_later_begin T) (hr.mono (by decide)) rfl T.later_begin.g T.later_begin.F.kp (b_later_begin T) .nil px0 (pa_cons (pv 0) (pa_cons (pv 1) pa_nil))) pa_nil)) (by rfl))
      (pss_cons (ps_while (passes_of rfl) (pt_val (pe_call (ok_is_less T) (hr.mono (by decide)) rfl T.is_less.g T.is_less.F.kp (b_is_less T) .nil px0 (pa_cons (pv 4) (pa_cons (pv 2) pa_nil)))) (pss_cons (ps_set (i := 5) nd rfl (by first | exact Or.inl rfl | exact Or.inr rfl) (pe_call (ok_last_turn T) (hr.mono (by decide)) rfl T.last_turn.g T.last_turn.F.kp (b_last_turn T) .nil px0 (pa_cons (pv 0) (pa_cons (pv 1) (pa_cons (pv 2) pa_nil)))))
      (pss_cons (ps_set (i := 6) nd rfl (by first | exact Or.inl rfl | exact Or.inr rfl) (pe_call (ok_order_of T) (hr.mono (by decide)) rfl T.order_of.g T.order_of.F.kp (b_order_of T) .nil px0 (pa_cons (pe_call (ok_gap_at T) (hr.mono (by decide)) rfl T.gap_at.g T.gap_at.F.kp (b_gap_at T) .nil px0 (pa_cons (pv 0) (pa_cons (pv 1) (pa_cons (pv 5) pa_nil)))) (pa_cons (pv 3) pa_nil))))
      (pss_cons (ps_if (pt_cmpR (op_neK (K := K) rfl hu64) (pv 6) pe_int (nomark _))
      (pss_one (ps_ret (pe_tup (pa_cons (pv 2) (pa_cons (pv 6) pa_nil)))))
      pss_nil)
      (pss_one (ps_set (i := 2) nd rfl (by first | exact Or.inl rfl | exact Or.inr rfl) (pv 5)))))))
      (pss_one (ps_ret (pe_tup (pa_cons (pv 2) (pa_cons pe_int pa_nil))))))), fun ds kk xx hl h => ?_⟩
  try dsimp only [cxOf]
  obtain ⟨_, ⟨ks, js, t, rfl, h1, rfl⟩, hk⟩ := h
  have k1 := h1.k1
  have k2 := h1.k2
  have bl := h1.bl
  have g1 := h1.gap
  refine XS.seq ?_
  walk_at "go"
  refine XS.while (fun m ds M => ∃ u a b, ds = [some (dTab T.C_Timetable ks), some (dTab T.C_Timetable js), some (dQ u), some (dQ (gapQ ks js t)), some (dQ (laterB ks js)), a, b] ∧ M = [] ∧ Tw ks js u ∧ m = cntB ks js u ∧ cntB ks js u ≤ cntB ks js t ∧ sideN ks js (gapQ ks js t) (cntB ks js t) u = sideB ks js t) (cntB ks js t) ⟨t, _, _, rfl, rfl, h1, rfl, Nat.le_refl _, rfl⟩ ?_
  rintro m _ M ⟨u, a, b, rfl, rfl, hu, rfl, hc, he⟩
  have bu := hu.ht
  have hl := hu.last
  have g2 := hl.gap
  walk_at "go"
  refine ⟨fun hb => ?_, fun hb => ?_⟩
  · have hb := of_decide_eq_true hb
    rw [sideN_step hb hc] at he
    have hc2 := cntB_last hb
    walk_at "go"
    refine ⟨fun hd => ?_, fun hd => ?_⟩
    · have hd : sgn (gapQ ks js (lastT ks js u) - gapQ ks js t) ≠ 0 := by simpa using hd
      rw [if_pos hd] at he
      walk_at "go"
      rw [← he] at hk
      exact hk
    · have hd : sgn (gapQ ks js (lastT ks js u) - gapQ ks js t) = 0 := by simpa using hd
      rw [if_neg (by simp [hd])] at he
      walk_at "go"
      exact ⟨cntB ks js (lastT ks js u), hc2, lastT ks js u, _, _, rfl, rfl, hl, rfl, by omega, he⟩
  · have hb := of_decide_eq_false hb
    walk_at "go"
    have e : sideN ks js (gapQ ks js t) (cntB ks js t) u = (u, 0) := by
      unfold sideN
      split
      · rfl
      · rw [if_neg hb]
    rw [e] at he
    rw [← he] at hk
    exact hk
theorem ok_side_after (T : Txt K mg) : FnOk P w K mg base (L2.CX P w) 7 T.side_after.a T.side_after.fd ["one", "other", "t"] (spD K 3 (pur ((spR noR)))) := by
  refine fn_okP T.side_after.F sc_side_after rfl fun cdv A outer s H E hr => ?_
  have nd := sc_side_after.nd
  have hu64 := hr.units
  have hu65 := hu65_of hr
  have hu1 := hu_of hr
  refine ⟨_, (pss_cons (ps_while (passes_of rfl) (pt_cmpR op_ntN' (pv 2) pe_non (nomark _)) (pss_cons (ps_set (i := 3) nd rfl (by first | exact Or.inl rfl | exact Or.inr rfl) (pe_call (ok_growth_at T) (hr.mono (by decide)) rfl T.growth_at.g T.growth_at.F.kp (b_growth_at T) .nil px0 (pa_cons (pv 0) (pa_cons (pv 1) (pa_cons (pv 2) pa_nil)))))
      (pss_cons (ps_if (pt_cmpR (op_neK (K := K) rfl hu64) (pv 3) (pe_glob (v := .ref T.a_ZERO_pairs) rfl T.g_ZERO_pairs rfl) (nomark _))
      (pss_one (ps_ret (pe_tup (pa_cons (pv 2) (pa_cons (pe_call (ok_order_of T) (hr.mono (by decide)) rfl T.order_of.g T.order_of.F.kp (b_order_of T) .nil px0 (pa_cons (pv 3) (pa_cons (pe_glob (v := .ref T.a_ZERO_pairs) rfl T.g_ZERO_pairs rfl) pa_nil))) pa_nil)))))
      pss_nil)
      (pss_one (ps_set (i := 2) nd rfl (by first | exact Or.inl rfl | exact Or.inr rfl) (pe_call (ok_next_turn T) (hr.mono (by decide)) rfl T.next_turn.g T.next_turn.F.kp (b_next_turn T) .nil px0 (pa_cons (pv 0) (pa_cons (pv 1) (pa_cons (pv 2) pa_nil)))))))))
      (pss_one (ps_ret (pe_tup (pa_cons pe_non (pa_cons pe_int pa_nil)))))), fun ds kk xx hl h => ?_⟩
  try dsimp only [cxOf]
  obtain ⟨_, h, _⟩ := h
  exact h.elim
theorem ok_before_at (T : Txt K mg) : FnOk P w K mg base (L2.CX P w) 9 T.before_at.a T.before_at.fd ["one", "other", "t", "length"] (spD K 4 (pur ((spR noR)))) := by
  refine fn_okP T.before_at.F sc_before_at rfl fun cdv A outer s H E hr => ?_
  have nd := sc_before_at.nd
  have hu64 := hr.units
  have hu65 := hu65_of hr
  have hu1 := hu_of hr
  refine ⟨_, (pss_cons (ps_if (pt_not (pt_val (pe_call (ok_is_contact T) (hr.mono (by decide)) rfl T.is_contact.g T.is_contact.F.kp (b_is_contact T) .nil px0 (pa_cons (pe_call (ok_gap_at T) (hr.mono (by decide)) rfl T.gap_at.g T.gap_at.F.kp (b_gap_at T) .nil px0 (pa_cons (pv 0) (pa_cons (pv 1) (pa_cons (pv 2) pa_nil)))) (pa_cons (pv 3) pa_nil)))))
      (pss_one (ps_ret pe_non))
      pss_nil)
      (pss_one (ps_ret (pe_ix (ix_K (K := K) rfl) (pe_call (ok_side_before T) (hr.mono (by decide)) rfl T.side_before.g T.side_before.F.kp (b_side_before T) .nil px0 (pa_cons (pv 0) (pa_cons (pv 1) (pa_cons (pv 2) pa_nil)))) pe_int (fun _ _ => rfl))))), fun ds kk xx hl h => ?_⟩
  try dsimp only [cxOf]
  obtain ⟨_, h, _⟩ := h
  exact h.elim
theorem ok_laps_before (T : Txt K mg) : FnOk P w K mg base (L2.CX P w) 9 T.laps_before.a T.laps_before.fd ["one", "other", "t", "length"] (spD K 4 (pur ((spR (R_laps_before T.C_Timetable))))) := by
  refine fn_okP T.laps_before.F sc_laps_before rfl fun cdv A outer s H E hr => ?_
  have nd := sc_laps_before.nd
  have hu64 := hr.units
  have hu65 := hu65_of hr
  have hu1 := hu_of hr
  refine ⟨_, (pss_cons (ps_set (i := 4) nd rfl (by first | exact Or.inl rfl | exact Or.inr rfl) (pe_call (ok_gap_at T) (hr.mono (by decide)) rfl T.gap_at.g T.gap_at.F.kp (b_gap_at T) .nil px0 (pa_cons (pv 0) (pa_cons (pv 1) (pa_cons (pv 2) pa_nil)))))
      (pss_cons (ps_if (pt_not (pt_val (pe_call (ok_is_contact T) (hr.mono (by decide)) rfl T.is_contact.g T.is_contact.F.kp (b_is_contact T) .nil px0 (pa_cons (pv 4) (pa_cons (pv 3) pa_nil)))))
      (pss_one (ps_ret (pe_call (ok_laps_in T) (hr.mono (by decide)) rfl T.laps_in.g T.laps_in.F.kp (b_laps_in T) .nil px0 (pa_cons (pv 4) (pa_cons (pv 3) pa_nil)))))
      pss_nil)
      (pss_cons (ps_set (i := 5) nd rfl (by first | exact Or.inl rfl | exact Or.inr rfl) (pe_ix (ix_K (K := K) rfl) (pe_call (ok_side_before T) (hr.mono (by decide)) rfl T.side_before.g T.side_before.F.kp (b_side_before T) .nil px0 (pa_cons (pv 0) (pa_cons (pv 1) (pa_cons (pv 2) pa_nil)))) pe_int (fun _ _ => rfl)))
      (pss_cons (ps_if (pt_cmpR (op_eqK (K := K) rfl hu64) (pv 5) pe_int (nomark _))
      (pss_one (ps_set (i := 5) nd rfl (by first | exact Or.inl rfl | exact Or.inr rfl) (pe_ix (ix_K (K := K) rfl) (pe_call (ok_side_after T) (hr.mono (by decide)) rfl T.side_after.g T.side_after.F.kp (b_side_after T) .nil px0 (pa_cons (pv 0) (pa_cons (pv 1) (pa_cons (pv 2) pa_nil)))) pe_int (fun _ _ => rfl))))
      pss_nil)
      (pss_one (ps_ret (pe_op op_sub (pe_call (ok_laps_in T) (hr.mono (by decide)) rfl T.laps_in.g T.laps_in.F.kp (b_laps_in T) .nil px0 (pa_cons (pv 4) (pa_cons (pv 3) pa_nil))) (pe_callTy cr_int (by rfl) T.m_int boot_int (pa_cons (pe_cmpR op_lt (pv 5) pe_int (nomark _)) pa_nil))))))))), fun ds kk xx hl h => ?_⟩
  try dsimp only [cxOf]
  obtain ⟨_, ⟨ks, js, t, L, b, rfl, h1, hL, h2, rfl⟩, hk⟩ := h
  have g1 := h1.gap
  have e0 := h2.later
  have hle := h1.le
  rw [e0] at hle
  have ef : lapsB L ks js t = if isCon L (gapQ ks js t) then lapsIn L (gapQ ks js t) - (if (sideB ks js t).2 < 0 then 1 else 0) else lapsIn L (gapQ ks js t) := rfl
  rw [ef] at hk
  walk_at "go"
  refine ⟨fun hb => ?_, fun hb => ?_⟩
  · have hb : isCon L (gapQ ks js t) = false := by simpa using hb
    rw [if_neg (by rw [hb]; exact Bool.false_ne_true)] at hk
    walk_at "go"
    exact hk
  · have hb : isCon L (gapQ ks js t) = true := by simpa using hb
    have hs : (sideB ks js t).2 ≠ 0 := h2.side hle hb
    rw [if_pos hb] at hk
    walk_at "go"
    refine pickF (by simpa using hs) ?_
    walk_at "go"
    refine XC.int_bl ?_
    walk_at "go"
    simpa using hk
theorem ok_laps (T : Txt K mg) : FnOk P w K mg base (L2.CX P w) 8 T.laps.a T.laps.fd ["one", "other", "t", "length"] (spD K 4 (pur ((spR (R_laps T.C_Timetable))))) := by
  refine fn_okP T.laps.F sc_laps rfl fun cdv A outer s H E hr => ?_
  have nd := sc_laps.nd
  have hu64 := hr.units
  have hu65 := hu65_of hr
  have hu1 := hu_of hr
  refine ⟨_, (pss_cons (ps_expr (pe_call (ok_need_length T) (hr.mono (by decide)) rfl T.need_length.g T.need_length.F.kp (b_need_length T) .nil px0 (pa_cons (pv 3) pa_nil)))
      (pss_cons (ps_expr (pe_call (ok_need_times T) (hr.mono (by decide)) rfl T.need_times.g T.need_times.F.kp (b_need_times T) .nil px0 (pa_cons (pv 0) (pa_cons (pv 1) (pa_cons (pv 2) (pa_cons (pv 2) pa_nil))))))
      (pss_one (ps_ret (pe_call (ok_laps_in T) (hr.mono (by decide)) rfl T.laps_in.g T.laps_in.F.kp (b_laps_in T) .nil px0 (pa_cons (pe_call (ok_gap_at T) (hr.mono (by decide)) rfl T.gap_at.g T.gap_at.F.kp (b_gap_at T) .nil px0 (pa_cons (pv 0) (pa_cons (pv 1) (pa_cons (pv 2) pa_nil)))) (pa_cons (pv 3) pa_nil))))))), fun ds kk xx hl h => ?_⟩
  try dsimp only [cxOf]
  obtain ⟨_, ⟨ks, js, t, L, rfl, h1, hL, rfl⟩, hk⟩ := h
  have g1 := h1.gap
  have ht := h1.ht
  have hr : t ≤ t := Rat.le_refl
  walk_at "go"
  exact hk
end
end My

namespace My
open PySem L2 DL PyProof.Rows SX
local macro_rules | `(tactic| walk_at "bq") => `(tactic| first | exact BQ.mono (by assumption) (by decide) | exact BQ.mono (BQ.sub (by assumption) (by assumption)) (by decide) | exact BQ.mono (BQ.add (by assumption) (by assumption)) (by decide) | exact BQ.mono (BQ.mul (by assumption) (by assumption)) (by decide))
def NameOk (s : Str) : Prop := ∃ l : List Nat, s = S l ∧ 1 ≤ l.length ∧ l.length ≤ 8 ∧ ∀ c ∈ l, 97 ≤ c ∧ c ≤ 122
def dTabs (C : Addr) (ns : List Str) (kf : Str → List Kn) : D := .fdct (ns.map fun n => (kN n, dTab C (kf n)))
structure Loads (L : Option Int) (b : Rat) (ns : List Str) (kf : Str → List Kn) : Prop where
  ne : ns ≠ []
  len : ns.length ≤ 12
  nd : ns.Nodup
  nm : ∀ n ∈ ns, NameOk n
  kt : ∀ n ∈ ns, Kt (kf n)
  beg : ∀ n ∈ ns, firstT (kf n) = b
  bb : BQ 200 b
  lok : LOK L
  apart : ∀ m ∈ ns, ∀ n ∈ ns, m ≠ n → isCon L (firstX (kf m) - firstX (kf n)) = false
section
variable {L : Option Int} {b : Rat} {ns : List Str} {kf : Str → List Kn}
theorem Loads.pos (h : Loads L b ns kf) {n : Str} (hn : n ∈ ns) : posAt (kf n) b = firstX (kf n) := by
  rw [← h.beg n hn]
  exact posAt_first (h.kt n hn).asc
theorem Loads.tw (h : Loads L b ns kf) {m n : Str} {t : Rat} (hm : m ∈ ns) (hn : n ∈ ns) (ht : BQ 200 t) (hb : b ≤ t) : Tw (kf m) (kf n) t := ⟨h.kt m hm, h.kt n hn, ht, by
  unfold laterB
  rw [h.beg m hm, h.beg n hn, if_neg Rat.lt_irrefl]
  exact hb⟩
theorem Loads.two (h : Loads L b ns kf) {m n : Str} (hm : m ∈ ns) (hn : n ∈ ns) (hne : m ≠ n) : Two L b (kf m) (kf n) := ⟨(h.kt m hm).ne, (h.kt n hn).ne, h.beg m hm, h.beg n hn, by
  unfold gapQ
  rw [h.pos hm, h.pos hn]
  exact h.apart m hm n hn hne⟩
def spotN (L : Option Int) (kf : Str → List Kn) (n : Str) : Rat := spotQ L (firstX (kf n))
theorem Loads.inj (h : Loads L b ns kf) : ∀ m ∈ ns, ∀ n ∈ ns, spotN L kf m = spotN L kf n → m = n := fun m hm n hn e => Classical.byContradiction fun z => by
  have h1 := con_of_spot (fun l hl => (h.lok l hl).1) e
  rw [h.apart m hm n hn z] at h1
  cases h1
theorem Loads.fx (h : Loads L b ns kf) {n : Str} (hn : n ∈ ns) : BQ 200 (firstX (kf n)) := by
  obtain ⟨_, _, _, e, _, hb⟩ := (h.kt n hn).get0
  rw [e]; exact hb
theorem Loads.sB (h : Loads L b ns kf) {n : Str} (hn : n ∈ ns) : BQ 602 (spotN L kf n) := spotQ_B h.lok (h.fx hn) (by decide) (by decide)
end
def R_is_name (ds : List D) (r : D) : Prop := ∃ s, ds = [.str s] ∧ NameOk s ∧ r = .bl true
def R_spot_of (ds : List D) (r : D) : Prop := ∃ x L, ds = [dQ x, dL L] ∧ BQ 1404 x ∧ LOK L ∧ r = dQ (spotQ L x)
theorem u_spot_of {x : Rat} {L : Option Int} (h : BQ 1404 x) (hL : LOK L) : R_spot_of [dQ x, dL L] (dQ (spotQ L x)) := ⟨x, L, rfl, h, hL, rfl⟩
def R_need_tables (C : Addr) (ds : List D) (r : D) : Prop := ∃ L b ns kf, ds = [dTabs C ns kf, dL L] ∧ Loads L b ns kf ∧ r = .non
theorem u_need_tables {C : Addr} {L : Option Int} {b : Rat} {ns : List Str} {kf : Str → List Kn} (h : Loads L b ns kf) : R_need_tables C [dTabs C ns kf, dL L] .non := ⟨L, b, ns, kf, rfl, h, rfl⟩
def lLet : Str := "abcdefghijklmnopqrstuvwxyz"
theorem cps_S (l : List Nat) : (S l).cps.toList = l := by simp [S]
theorem let_mem {c : Nat} (h1 : 97 ≤ c) (h2 : c ≤ 122) : c ∈ lLet.cps.toList := by
  have e : lLet.cps.toList = [97,98,99,100,101,102,103,104,105,106,107,108,109,110,111,112,113,114,115,116,117,118,119,120,121,122] := rfl
  rw [e]
  simp only [List.mem_cons, List.not_mem_nil, or_false]
  omega
theorem lit_letters : ("abcdefghijklmnopqrstuvwxyz" : Str) = S [97,98,99,100,101,102,103,104,105,106,107,108,109,110,111,112,113,114,115,116,117,118,119,120,121,122] := rfl
local macro_rules | `(tactic| walk_at "go") => `(tactic| repeat (first
  | ((with_reducible refine idE ?_); first
    | ((with_reducible apply XE.var); · exact rfl)
    | (with_reducible first
      | refine XE.op ?_
      | refine XE.int ?_
      | refine XE.str ?_
      | refine XE.ite ?_
      | refine XE.cb ?_
      | refine XE.tup ?_
      | refine XE.bl ?_
      | refine XE.non ?_
      | refine XE.ty ?_
      | refine XE.un ?_
      | refine XE.andV ?_
      | refine XE.orV ?_
      | refine XE.notV ?_
      | refine XE.slice ?_
      | refine XE.chain ?_))
  | ((with_reducible refine idE ?_); (with_reducible refine XE.callP ?_ (fun _ => rfl) (dD := []) (fun _ => .nil) ?_); (focus (first | with_reducible exact mo_R | walk_at "mo")))
  | ((with_reducible refine idE ?_); (with_reducible refine XE.methP ?_ (fun _ => rfl) (dD := []) (fun _ => .nil) ?_); (focus (first | with_reducible exact mo_R | walk_at "mo")))
  | ((with_reducible refine idE ?_); (with_reducible refine XE.callT mo_R (fun _ => rfl) (dD := []) (fun _ => .nil) ?_))
  | ((with_reducible refine idE ?_); (with_reducible refine XE.callNP ?_ (fun _ => rfl) ?_); (focus (first | with_reducible exact mo_R | walk_at "mo")))
  | ((with_reducible refine idE ?_); (with_reducible refine XE.callNTP mo_R (fun _ => rfl) ?_))
  | ((with_reducible refine idA ?_); with_reducible first
      | refine XA.nil ?_
      | refine XA.cons ?_)
  | ((with_reducible refine idR ?_); first
      | (with_reducible first
        | refine XR.add_int ?_
        | refine XR.eq_int ?_
        | refine XR.ne_int ?_
        | refine XR.i0 ?_
        | refine XR.subB ?_
        | refine XR.ne_dQ ?_
        | refine XR.eq_dQ ?_
        | refine XR.b0 ?_
        | refine XR.isN ?_
        | refine XR.ntN ?_)
      | refine XR.ix_tup rfl ?_
      | refine XR.ix_lst (by first | exact LsAt.lst | exact LsAt.raw At.hd) rfl ?_)
  | ((with_reducible refine idS ?_); with_reducible first
      | refine XS.seq ?_
      | refine XS.asg ?_
      | refine XS.ret ?_
      | refine XS.ifs ?_
      | refine XS.next ?_
      | refine XS.drop ?_
      | refine XS.par ?_
      | refine XS.par3 ?_)
  | ((with_reducible refine idT ?_); with_reducible first
      | refine XT.tst ?_
      | refine XT.bool ?_
      | refine XT.and ?_
      | refine XT.or ?_
      | refine XT.not ?_)
  | ((with_reducible refine idT ?_); refine XT.yes ?_)
  | ((with_reducible refine idS ?_); refine XS.aug rfl ?_)
  | with_reducible refine ex1 ?_
  | refine pickF rfl ?_
  | refine pickT rfl ?_
  | ((with_reducible refine idO ?_); with_reducible first
      | refine XO.none ?_
      | refine XO.some ?_)
  | ((with_reducible refine idGs ?_); with_reducible first
      | refine XGs.nil ?_
      | refine XGs.cons ?_)
  | ((with_reducible refine idG ?_); with_reducible first
      | refine XG.name (by simp) ?_
      | refine XG.tup rfl ?_)
  | with_reducible refine XC.abs ?_
  | with_reducible refine XU.neg ?_
  | refine ⟨_, _, rfl, ?_⟩
  | refine ⟨_, _, _, rfl, ?_⟩
  | refine ⟨_, rfl, ?_⟩
  | refine ⟨show (_ : Nat) + 1 ≤ 16000000 by simp only [List.length_cons, List.length_nil] <;> decide, ?_⟩
  | refine ⟨show (0 : Nat) ≤ 16000000 by decide, ?_⟩
  | refine ⟨rfl, rfl, rfl, _, (by walk_at "use"), ?_⟩
  | refine ⟨rfl, rfl, rfl, (by walk_at "tab"), _, (by walk_at "use"), ?_⟩
  | refine ⟨rfl, (by walk_at "tab"), _, (by walk_at "use"), ?_⟩
  | refine ⟨_, .ins, rfl, ?_⟩
  | ((refine ⟨rfl, ?_⟩); (with_reducible refine u_is_lessA ?_ ?_ ?_); (focus walk_at "bq"); (focus walk_at "bq"))
  | ((refine ⟨rfl, ?_⟩); (with_reducible refine u_sum_ofA ?_ ?_ ?_); (focus walk_at "bq"); (focus walk_at "bq"))
  | ((refine ⟨rfl, ?_⟩); (with_reducible refine u_rest_ofA ?_ ?_ ?_); (focus walk_at "bq"); (focus walk_at "bq"))
  | ((refine ⟨rfl, ?_⟩); (with_reducible refine u_product_ofA ?_ ?_ ?_); (focus walk_at "bq"); (focus walk_at "bq"))
  | refine ⟨rfl, _, (by walk_at "use"), ?_⟩
  | dsimp only [List.set_cons_zero, List.set_cons_succ]))
local macro_rules | `(tactic| walk_at "sp") => `(tactic| first | refine ⟨[], _, rfl, rfl, ?_⟩ | refine ⟨rfl, ?_⟩)
local macro_rules | `(tactic| walk_at "tab") => `(tactic| first | exact .hd | exact .tl .hd | exact .tl (.tl .hd) | exact .tl (.tl (.tl .hd)))
local macro_rules | `(tactic| walk_at "sp1") => `(tactic| first | refine ⟨[_], _, rfl, rfl, ?_⟩ | refine ⟨rfl, ?_⟩)
local macro_rules | `(tactic| walk_at "sp2") => `(tactic| first | refine ⟨[_, _], _, rfl, rfl, ?_⟩ | refine ⟨rfl, ?_⟩)

local macro_rules | `(tactic| walk_at "mo") => `(tactic| first | exact mo_is_less | exact mo_sum_of | exact mo_rest_of | exact mo_product_of | exact mo_share_of | exact mo_is_whole | exact mo_new_fraction)
local macro_rules | `(tactic| walk_at "use") => `(tactic| (try dsimp only [List.cons_append, List.nil_append, List.append_nil]); first | ((with_reducible apply u_tbegin) <;> first | assumption | walk_at "bq") | ((with_reducible apply u_tat) <;> first | assumption | walk_at "bq") | ((with_reducible apply u_need_length) <;> first | assumption | walk_at "bq") | ((with_reducible apply u_spot_of) <;> first | assumption | walk_at "bq") | ((with_reducible apply u_order_of) <;> first | assumption | walk_at "bq") | exact u_tbegin (by assumption) | exact u_tat (by assumption) (by assumption) (by assumption) | exact u_need_length (by assumption) | exact u_spot_of (by assumption) (by assumption) | exact u_order_of (by walk_at "bq") (by walk_at "bq"))
section
variable {P : Program} {w : World} {K : PySem.W.Frag} {mg : Str → Option Value} {base : Heap}
theorem ok_is_name (T : Txt K mg) : FnOk P w K mg base (L2.CX P w) 1 T.is_name.a T.is_name.fd ["value"] (spD K 1 (pur ((spR R_is_name)))) := by
  refine fn_okP T.is_name.F sc_is_name rfl fun cdv A outer s H E hr => ?_
  have nd := sc_is_name.nd
  have hu64 := hr.units
  have hu65 := hu65_of hr
  have hu1 := hu_of hr
  refine ⟨_, (pss_one (ps_ret (pe_and (pe_callB (cr_isiK (K := K) rfl) (by rfl) T.m_isinstance boot_isinstance (pa_cons (pv 0) (pa_cons (pe_bltn (v := .ty "str") (by rfl) T.m_str boot_str rfl) pa_nil))) (pe_and (pe_chain op_le op_le pe_int (pe_callB (cr_lenK (K := K) rfl) (by rfl) T.m_len PySem.boot_len (pa_cons (pv 0) pa_nil)) pe_int) (pe_one (pe_callB (cr_allK (K := K) rfl (by rfl)) (by rfl) T.m_all boot_all (pa_cons (pe_lc (own := [("sign", 1)]) (g := gName 1) (by rfl) nd (pi_str (pv 0)) (blkOk_by (N := N_is_name) (sc := defScope s_is_name) (by decide +kernel)) (fun _ _ _ _ _ => (pg_name (i := 1) nd rfl (by first | exact Or.inl rfl | exact Or.inr rfl))) (fun _ _ _ _ _ => pts_nil) (fun _ _ _ _ _ => (pe_cmpR (op_inK (K := K) rfl hu65) (pv 1) (pe_glob rfl T.c_LETTERS.choose_spec.1 T.c_LETTERS.choose_spec.2) (by rfl)))) pa_nil))))))), fun ds kk xx hl h => ?_⟩
  try dsimp only [cxOf]
  obtain ⟨_, ⟨_, rfl, ⟨l, rfl, h1, h2, h3⟩, rfl⟩, hk⟩ := h
  have hlen : (S l).length = l.length := SX.S_len l
  walk_at "go"
  refine XC.isT rfl (by simp) ?_
  walk_at "go"
  refine XC.len_str (lenS (by omega)) ?_
  rw [hlen]
  walk_at "go"
  refine pickT (by simp; omega) ?_
  walk_at "go"
  refine pickT (by simp; omega) ?_
  walk_at "go"
  refine XE.lcMap (fun c => D.str ⟨#[c]⟩) (fun c => D.bl (decide (c ∈ lLet.cps.toList))) chr_inj (XI.str ?_)
  walk_at "go"
  refine ⟨?_, fun c hc => ?_, ?_⟩
  · omega
  · walk_at "go"
    refine XR.in_sign ?_
    exact ⟨rfl, rfl⟩
  walk_at "go"
  refine XC.all (bs := (S l).cps.toList.map fun c => decide (c ∈ lLet.cps.toList)) (by rw [List.map_map]; exact .lst) ?_
  have e : ((S l).cps.toList.map fun c => decide (c ∈ lLet.cps.toList)).all id = true := by
    rw [show (S l).cps.toList = l from cps_S l, List.all_map, List.all_eq_true]
    intro c hc
    obtain ⟨z1, z2⟩ := h3 c hc
    show decide (c ∈ lLet.cps.toList) = true
    exact decide_eq_true (let_mem z1 z2)
  rw [e]
  exact hk
theorem ok_spot_of (T : Txt K mg) : FnOk P w K mg base (L2.CX P w) 3 T.spot_of.a T.spot_of.fd ["place", "length"] (spD K 2 (pur ((spR R_spot_of)))) := by
  refine fn_okP T.spot_of.F sc_spot_of rfl fun cdv A outer s H E hr => ?_
  have nd := sc_spot_of.nd
  have hu64 := hr.units
  have hu65 := hu65_of hr
  have hu1 := hu_of hr
  refine ⟨_, (pss_cons (ps_if (pt_cmpR op_isN' (pv 1) pe_non (nomark _))
      (pss_one (ps_ret (pv 0)))
      pss_nil)
      (pss_one (ps_ret (pe_call (ok_new_fraction T) (hr.mono (by decide)) rfl T.new_fraction.g T.new_fraction.F.kp (b_new_fraction T) .nil px0 (pa_cons (pe_op op_modN (pe_ix (ix_K (K := K) rfl) (pv 0) pe_int (fun _ _ => rfl)) (pe_op op_mulW (pv 1) (pe_ix (ix_K (K := K) rfl) (pv 0) pe_int (fun _ _ => rfl)))) (pa_cons (pe_ix (ix_K (K := K) rfl) (pv 0) pe_int (fun _ _ => rfl)) pa_nil)))))), fun ds kk xx hl h => ?_⟩
  try dsimp only [cxOf]
  obtain ⟨_, ⟨x, L, rfl, hx, hL, rfl⟩, hk⟩ := h
  cases L with
  | none =>
    dsimp only [dL]
    walk_at "go"
    exact hk
  | some l =>
    obtain ⟨h1, h2⟩ := hL l rfl
    dsimp only [dL]
    walk_at "go"
    refine XR.i (h2.mulOk hx.den (by decide) (by decide) (by decide)) ?_
    walk_at "go"
    refine XR.i (Int.mul_ne_zero (by omega) (den_ne x)) ?_
    walk_at "go"
    refine ⟨rfl, _, _, 1404, rfl, den_ne x, hx.den, by decide, by decide, ?_⟩
    rw [spot_fmod h1]
    exact hk
theorem take_spots {ns : List Str} {f : Str → Rat} {i : Nat} {n : Str} (h : ns[i]? = some n) : ((ns.take (i + 1)).map fun m => (kQ (f m), D.bl true)) = ((ns.take i).map fun m => (kQ (f m), D.bl true)) ++ [(kQ (f n), D.bl true)] := by
  rw [take_get h, List.map_append]
  rfl
theorem nd_take {ns : List Str} (nd : ns.Nodup) {i : Nat} {n m : Str} (h : ns[i]? = some n) (hm : m ∈ ns.take i) : m ≠ n := fun z => by
  subst z
  obtain ⟨j, hj⟩ := List.getElem?_of_mem hm
  have hji : j < i := by
    have := (List.getElem?_eq_some_iff.mp hj).1
    rw [List.length_take] at this
    omega
  rw [List.getElem?_take_of_lt hji] at hj
  have := List.pairwise_iff_getElem.mp nd j i (List.getElem?_eq_some_iff.mp hj).1 (List.getElem?_eq_some_iff.mp h).1 hji
  exact this ((List.getElem?_eq_some_iff.mp hj).2.trans (List.getElem?_eq_some_iff.mp h).2.symm)
theorem ok_need_tables (T : Txt K mg) : FnOk P w K mg base (L2.CX P w) 7 T.need_tables.a T.need_tables.fd ["tables", "length"] (spD K 2 (pur ((spR (R_need_tables T.C_Timetable))))) := by
  refine fn_okP T.need_tables.F sc_need_tables rfl fun cdv A outer s H E hr => ?_
  have nd := sc_need_tables.nd
  have hu64 := hr.units
  have hu65 := hu65_of hr
  have hu1 := hu_of hr
  refine ⟨_, (pss_cons (ps_expr (pe_call (ok_need_length T) (hr.mono (by decide)) rfl T.need_length.g T.need_length.F.kp (b_need_length T) .nil px0 (pa_cons (pv 1) pa_nil)))
      (pss_cons (ps_if (PW.pt (pw_or (pt_not (pt_val (pe_callB (cr_isiK (K := K) rfl) (by rfl) T.m_isinstance boot_isinstance (pa_cons (pv 0) (pa_cons (pe_bltn (v := .ty "dict") (by rfl) T.m_dict boot_dict rfl) pa_nil))))) (pw_or1 (pt_not (pt_chain op_le op_le pe_int (pe_callB (cr_lenG (K := K) rfl) (by rfl) T.m_len boot_len (pa_cons (pv 0) pa_nil)) (pe_glob rfl T.c_MOST_LOADS.choose_spec.1 T.c_MOST_LOADS.choose_spec.2))))))
      (pss_one ps_never)
      pss_nil)
      (pss_cons (ps_par (i := 2) (j := 3) rfl nd rfl rfl (by decide) rfl rfl (pa_cons pe_dnewQ (pa_cons pe_dnewQ pa_nil)) (by rfl))
      (pss_cons (ps_for (passes_of rfl) rfl (pi_items (pv 0)) (pg_tupK (K := K) (n := 2) rfl rfl (pgs_cons (pg_name (i := 4) nd rfl (by first | exact Or.inl rfl | exact Or.inr rfl)) (pgs_cons (pg_name (i := 5) nd rfl (by first | exact Or.inl rfl | exact Or.inr rfl)) pgs_nil)))
      (pss_cons (ps_if (PW.pt (pw_or (pt_not (pt_val (pe_call (ok_is_name T) (hr.mono (by decide)) rfl T.is_name.g T.is_name.F.kp (b_is_name T) .nil px0 (pa_cons (pv 4) pa_nil)))) (pw_or1 (pt_not (pt_val (pe_callB (cr_isiK (K := K) rfl) (by rfl) T.m_isinstance boot_isinstance (pa_cons (pv 5) (pa_cons (pe_glob (v := .ref T.C_Timetable) rfl T.g_Timetable rfl) pa_nil))))))))
      (pss_one ps_never)
      pss_nil)
      (pss_cons (ps_qput hu1 (pv 2) (pe_meth0 (pv 5) T.cl_Timetable T.Timetable_begin.me (ok_Timetable_begin T) (hr.mono (by decide)) (b_Timetable_begin T) .nil px0) pe_bl rfl)
      (pss_one (ps_qput hu1 (pv 3) (pe_call (ok_spot_of T) (hr.mono (by decide)) rfl T.spot_of.g T.spot_of.F.kp (b_spot_of T) .nil px0 (pa_cons (pe_meth (pv 5) T.cl_Timetable T.Timetable_at.me (ok_Timetable_at T) (hr.mono (by decide)) (b_Timetable_at T) .nil px0 (pa_cons (pe_meth0 (pv 5) T.cl_Timetable T.Timetable_begin.me (ok_Timetable_begin T) (hr.mono (by decide)) (b_Timetable_begin T) .nil px0) pa_nil)) (pa_cons (pv 1) pa_nil))) pe_bl rfl)))))
      (pss_one (ps_if (PW.pt (pw_or (pt_cmpR op_gt (pe_callB cr_lenQ (by rfl) T.m_len boot_len (pa_cons (pv 2) pa_nil)) pe_int (nomark _)) (pw_or1 (pt_cmpR op_lt (pe_callB cr_lenQ (by rfl) T.m_len boot_len (pa_cons (pv 3) pa_nil)) (pe_callB (cr_lenG (K := K) rfl) (by rfl) T.m_len boot_len (pa_cons (pv 0) pa_nil)) (nomark _)))))
      (pss_one ps_never)
      pss_nil)))))), fun ds kk xx hl h => ?_⟩
  try dsimp only [cxOf]
  obtain ⟨_, ⟨L, b, ns, kf, rfl, hL, rfl⟩, hk⟩ := h
  have lok := hL.lok
  have hlen := hL.len
  have hpos : 0 < ns.length := List.length_pos_iff.mpr hL.ne
  walk_at "go"
  refine XC.isT rfl (by simp) ?_
  walk_at "go"
  refine XC.lenD .fdct ?_
  rw [List.length_map]
  walk_at "go"
  refine pickT (decide_eq_true (by omega)) ?_
  walk_at "go"
  refine pickF (by (rw [decide_eq_true (by omega)]; try rfl)) ?_
  walk_at "go"
  refine XE.dnewQ fun pB hpB => ?_
  walk_at "go"
  refine XE.dnewQ fun pS hpS => ?_
  walk_at "go"
  refine XS.for [4, 5] (XI.items ?_)
  walk_at "go"
  refine ⟨fun i ds M => (∃ u v, ds = [some (dTabs T.C_Timetable ns kf), some (dL L), some (.raw pB), some (.raw pS), u, v]) ∧ M = [(pS, .dtq P w pS ((ns.take i).map fun m => (kQ (spotN L kf m), D.bl true))), (pB, .dtq P w pB (if i = 0 then [] else [(kQ b, .bl true)]))], ⟨⟨_, _, rfl⟩, rfl⟩, ?_, ?_⟩
  · rintro i x _ M hx ⟨⟨u, v, rfl⟩, rfl⟩
    rw [List.map_map] at hx
    obtain ⟨n, hn, hxe⟩ := map_get hx
    have hxe : x = D.tup [D.str n, dTab T.C_Timetable (kf n)] := hxe
    subst hxe
    have hm := List.mem_of_getElem? hn
    have kt := hL.kt n hm
    have bt := kt.first
    have fl : firstT (kf n) ≤ firstT (kf n) := Rat.le_refl
    have bp := kt.pos bt
    walk_at "go"
    refine ⟨rfl, _, ⟨n, rfl, hL.nm n hm, rfl⟩, ?_⟩
    walk_at "go"
    refine XE.c (d := .raw _) (fun _ => .raw _) ?_
    walk_at "go"
    refine XC.isi_ins .ins T.ty_Timetable (.inr ⟨_, rfl, rfl⟩) T.ki_Timetable ?_
    walk_at "go"
    refine XS.qput ?_
    walk_at "go"
    rw [hL.beg n hm]
    refine ⟨pB, (if i = 0 then [] else [(kQ b, .bl true)]), kQ b, _, rfl, rfl, .tl .hd, ?_, ?_⟩
    · split
      · exact Nat.zero_lt_succ _
      · exact show (1 : Nat) < 16000000 by decide
    refine XS.qput ?_
    walk_at "go"
    rw [hL.beg n hm, hL.pos hm]
    refine ⟨pS, _, kQ (spotN L kf n), _, rfl, rfl, .hd, ?_, ⟨_, _, rfl⟩, ?_⟩
    · rw [List.length_map, List.length_take]
      omega
    · rw [putT_new (fun p hp => by
        obtain ⟨m, hm2, rfl⟩ := List.mem_map.mp hp
        intro z
        exact nd_take hL.nd hn hm2 (hL.inj m (List.mem_of_mem_take hm2) n hm (kQ_inj z))), take_spots hn, if_neg (Nat.succ_ne_zero i)]
      have e : putDT (if i = 0 then [] else [(kQ b, D.bl true)]) (kQ b) (.bl true) = [(kQ b, D.bl true)] := by
        split
        · rfl
        · unfold putDT
          simp
      rw [e]
  · rintro _ M ⟨⟨u, v, rfl⟩, rfl⟩
    rw [List.length_map, List.length_map, List.take_length, if_neg (by omega)]
    walk_at "go"
    refine XC.lenQ (.tl .hd) ?_
    walk_at "go"
    refine XC.lenQ .hd ?_
    walk_at "go"
    refine XC.lenD .fdct ?_
    rw [List.length_map, List.length_map]
    walk_at "go"
    refine pickF (by simp) ?_
    walk_at "go"
    exact hk
/-- how many loads begin on a lesser spot -/
def rkN (L : Option Int) (ns : List Str) (kf : Str → List Kn) (n : Str) : Int := (cntV (spotN L kf) ns n : Nat)
abbrev dOrd (L : Option Int) (ns : List Str) (kf : Str → List Kn) : D := .lst ((byRank (rkN L ns kf) ns).map D.str)
def R_ordered (C : Addr) (ds : List D) (r : D) : Prop := ∃ L b ns kf, ds = [dTabs C ns kf, dQ b, dL L] ∧ Loads L b ns kf ∧ r = dOrd L ns kf
theorem u_ordered {C : Addr} {L : Option Int} {b : Rat} {ns : List Str} {kf : Str → List Kn} (h : Loads L b ns kf) : R_ordered C [dTabs C ns kf, dQ b, dL L] (dOrd L ns kf) := ⟨L, b, ns, kf, rfl, h, rfl⟩
theorem cnt_take {ns : List Str} {v : Str → Rat} {a n : Str} {i : Nat} (h : ns[i]? = some n) : (cntV v (ns.take (i + 1)) a : Int) = (cntV v (ns.take i) a : Nat) + (if v n < v a then 1 else 0 : Int) := by
  unfold cntV
  rw [take_get h, List.countP_append]
  by_cases z : v n < v a
  · simp [List.countP_cons, z]
  · simp [List.countP_cons, z]
theorem ok_ordered (T : Txt K mg) (B : Tbs T base) : FnOk P w K mg base (L2.CX P w) 10 T.ordered.a T.ordered.fd ["tables", "t", "length"] (spD K 3 (purT T.P_ordered qlam ((spR (R_ordered T.C_Timetable))))) := by
  refine fn_okPT T.ordered.F T.cd_ordered sc_ordered rfl fun A outer s H E hr => ?_
  have nd := sc_ordered.nd
  have hu64 := hr.units
  have hu65 := hu65_of hr
  have hu1 := hu_of hr
  refine ⟨_, (pss_cons (ps_asg (pe_tup (pa_cons (pe_dc (own := [("name", 5)]) (by rfl) nd (pi_keys (pv 0)) (blkOk_by (N := N_ordered) (sc := defScope s_ordered) (by decide +kernel)) (fun _ _ _ _ _ => (pg_name (i := 5) nd rfl (by first | exact Or.inl rfl | exact Or.inr rfl))) (fun _ _ _ _ _ => pts_nil) (fun _ _ _ _ _ => (pv 5)) (fun _ _ _ _ _ => (pe_call (ok_spot_of T) (hr.mono (by decide)) rfl T.spot_of.g T.spot_of.F.kp (b_spot_of T) .nil passL (pa_cons (pe_meth (pe_dget hu1 (pv 0) (pv 5) (fun _ _ => rfl)) T.cl_Timetable T.Timetable_at.me (ok_Timetable_at T) (hr.mono (by decide)) (b_Timetable_at T) .nil passL (pa_cons (pv 1) pa_nil)) (pa_cons (pv 2) pa_nil))))) (pa_cons (pe_dc (own := [("name", 5)]) (by rfl) nd (pi_keys (pv 0)) (blkOk_by (N := N_ordered) (sc := defScope s_ordered) (by decide +kernel)) (fun _ _ _ _ _ => (pg_name (i := 5) nd rfl (by first | exact Or.inl rfl | exact Or.inr rfl))) (fun _ _ _ _ _ => pts_nil) (fun _ _ _ _ _ => (pv 5)) (fun _ _ _ _ _ => pe_int)) pa_nil))) (pg_tupK (K := K) (n := 2) rfl rfl (pgs_cons (pg_name (i := 3) nd rfl (by first | exact Or.inl rfl | exact Or.inr rfl)) (pgs_cons (pg_name (i := 4) nd rfl (by first | exact Or.inl rfl | exact Or.inr rfl)) pgs_nil))))
      (pss_cons (ps_for (passes_of rfl) rfl (pi_keys (pv 0)) (pg_name (i := 5) nd rfl (by first | exact Or.inl rfl | exact Or.inr rfl))
      (pss_one (ps_for (passes_of rfl) rfl (pi_keys (pv 0)) (pg_name (i := 6) nd rfl (by first | exact Or.inl rfl | exact Or.inr rfl))
      (pss_one (ps_if (pt_cmpR (op_neK (K := K) rfl hu64) (pv 6) (pv 5) (nomark _))
      (pss_cons (ps_set (i := 7) nd rfl (by first | exact Or.inl rfl | exact Or.inr rfl) (pe_call (ok_order_of T) (hr.mono (by decide)) rfl T.order_of.g T.order_of.F.kp (b_order_of T) .nil px0 (pa_cons (pe_dget hu1 (pv 3) (pv 6) (fun _ _ => rfl)) (pa_cons (pe_dget hu1 (pv 3) (pv 5) (fun _ _ => rfl)) pa_nil))))
      (pss_cons (ps_if (pt_cmpR (op_eqK (K := K) rfl hu64) (pv 7) pe_int (nomark _))
      (pss_one (ps_set (i := 7) nd rfl (by first | exact Or.inl rfl | exact Or.inr rfl) (pe_call (ok_before_at T) (hr.mono (by decide)) rfl T.before_at.g T.before_at.F.kp (b_before_at T) .nil px0 (pa_cons (pe_dget hu1 (pv 0) (pv 6) (fun _ _ => rfl)) (pa_cons (pe_dget hu1 (pv 0) (pv 5) (fun _ _ => rfl)) (pa_cons (pv 1) (pa_cons (pv 2) pa_nil)))))))
      pss_nil)
      (pss_cons (ps_if (pt_cmpR (op_eqK (K := K) rfl hu64) (pv 7) pe_int (nomark _))
      (pss_one ps_never)
      pss_nil)
      (pss_one (ps_daug hu1 (pv 4) (pv 5) (pe_callTy cr_int (by rfl) T.m_int boot_int (pa_cons (pe_cmpR op_lt (pv 7) pe_int (nomark _)) pa_nil)) in_addI (fun _ _ _ => rfl))))))
      pss_nil)))))
      (pss_one (ps_ret (pe_sortK (j := 4) (pv 0) hr (by rfl) (by rfl) T.m_sorted B rfl rfl rfl (by first | rfl | decide +kernel) rfl rfl rfl rfl (by decide) (by decide) (fun _ _ _ _ _ _ => rfl)))))), fun ds kk xx hl h => ?_⟩
  try dsimp only [cxOf]
  obtain ⟨_, ⟨L, b, ns, kf, rfl, hL, rfl⟩, hk⟩ := h
  have lok := hL.lok
  have hlen := hL.len
  have bb := hL.bb
  have gt : ∀ n ∈ ns, valD (ns.map fun m => (kN m, dTab T.C_Timetable (kf m))) (kN n) = some (dTab T.C_Timetable (kf n)) := fun n hn => val_fun (e := fun m => dTab T.C_Timetable (kf m)) hn
  refine XS.seq ?_
  refine XS.asgG [3, 4] ?_
  walk_at "go"
  refine XE.dcN (ns := ns) (fun m => dQ (spotN L kf m)) (XI.keys ?_)
  walk_at "go"
  refine ⟨by (rw [List.map_map]; try rfl), hL.nd, by omega, fun n hm => ?_, fun p1 hp1 => ?_⟩
  · have kt := hL.kt n hm
    have fl : firstT (kf n) ≤ b := by rw [hL.beg n hm]; exact Rat.le_refl
    have bp := kt.pos bb
    walk_at "go"
    refine XE.dgetG ?_
    walk_at "go"
    refine ⟨_, kN n, _, .fdct, rfl, gt n hm, ?_⟩
    walk_at "go"
    refine ⟨rfl, ?_, rfl⟩
    rw [hL.pos hm]
    rfl
  walk_at "go"
  refine XE.dcN (ns := ns) (fun m => .int 0) (XI.keys ?_)
  walk_at "go"
  refine ⟨by (rw [List.map_map]; try rfl), hL.nd, by omega, fun n hm => ?_, fun p2 hp2 => ?_⟩
  · walk_at "go"
    exact ⟨rfl, rfl, rfl⟩
  walk_at "go"
  refine XS.for [5] (XI.keys ?_)
  walk_at "go"
  have inj := hL.inj
  refine ⟨fun i ds M => (∃ u v z, ds = [some (dTabs T.C_Timetable ns kf), some (dQ b), some (dL L), some (.raw p1), some (.raw p2), u, v, z]) ∧ ∃ rr : Str → Int, (∀ m ∈ ns, rr m = if m ∈ ns.take i then rkN L ns kf m else 0) ∧ M = (p2, .dct (ns.map fun m => (kN m, .int (rr m)))) :: (p1, .dct (ns.map fun m => (kN m, dQ (spotN L kf m)))) :: tabM T.P_ordered qlam, ⟨⟨_, _, _, rfl⟩, fun _ => 0, fun m _ => by simp, rfl⟩, ?_, ?_⟩
  · rintro i x _ M hx ⟨⟨u, v, z, rfl⟩, rr, hrr, rfl⟩
    rw [List.map_map] at hx
    obtain ⟨n, hn, hxe⟩ := map_get hx
    have hxe : x = D.str n := hxe
    subst hxe
    have hm := List.mem_of_getElem? hn
    have hni : n ∉ ns.take i := fun z => nd_take' hL.nd hn z rfl
    have bn := hL.sB hm
    walk_at "go"
    refine XS.for [6] (XI.keys ?_)
    walk_at "go"
    refine ⟨fun j ds M => (∃ v z, ds = [some (dTabs T.C_Timetable ns kf), some (dQ b), some (dL L), some (.raw p1), some (.raw p2), some (.str n), v, z]) ∧ ∃ rr : Str → Int, (∀ m ∈ ns, rr m = if m ∈ ns.take i then rkN L ns kf m else if m = n then (cntV (spotN L kf) (ns.take j) n : Nat) else 0) ∧ M = (p2, .dct (ns.map fun m => (kN m, .int (rr m)))) :: (p1, .dct (ns.map fun m => (kN m, dQ (spotN L kf m)))) :: tabM T.P_ordered qlam, ⟨⟨_, _, rfl⟩, rr, fun m hm2 => ?_, rfl⟩, ?_, ?_⟩
    · rw [hrr m hm2]
      split
      · rfl
      · split <;> rfl
    · rintro j x _ M hx ⟨⟨v, z, rfl⟩, rr, hrr, rfl⟩
      rw [List.map_map] at hx
      obtain ⟨o, ho, hxe⟩ := map_get hx
      have hxe : x = D.str o := hxe
      subst hxe
      have hmo := List.mem_of_getElem? ho
      have bo := hL.sB hmo
      have hct := cnt_take (v := spotN L kf) (a := n) ho
      walk_at "go"
      refine XR.ne_str ?_
      walk_at "go"
      refine ⟨fun hb => ?_, fun hb => ?_⟩
      · have hb : o ≠ n := by simpa using hb
        have hv : spotN L kf o ≠ spotN L kf n := fun z => hb (inj o hmo n hm z)
        have hs : sgn (spotN L kf o - spotN L kf n) ≠ 0 := fun z => hv (by have := sgn_zero.mp z; grind)
        walk_at "go"
        refine XE.dgetG ?_
        walk_at "go"
        refine ⟨_, kN o, _, .raw (.tl .hd), rfl, val_fun (e := fun m => dQ (spotN L kf m)) hmo, ?_⟩
        walk_at "go"
        refine XE.dgetG ?_
        walk_at "go"
        refine ⟨_, kN n, _, .raw (.tl .hd), rfl, val_fun (e := fun m => dQ (spotN L kf m)) hm, ?_⟩
        walk_at "go"
        refine pickF (decide_eq_false hs) ?_
        walk_at "go"
        refine pickF (decide_eq_false hs) ?_
        walk_at "go"
        refine XS.daug ?_
        walk_at "go"
        refine ⟨p2, _, kN n, rr n, rfl, rfl, .hd, val_fun (e := fun m => .int (rr m)) hm, ?_⟩
        walk_at "go"
        refine XC.int_bl ?_
        refine ⟨_, _, _, rfl, .hd, by rw [List.length_map]; omega, ⟨_, _, rfl⟩, fun m => if m = n then rr n + (if decide (sgn (spotN L kf o - spotN L kf n) < 0) then 1 else 0) else rr m, fun m hm2 => ?_, ?_⟩
        · have hsg : (decide (sgn (spotN L kf o - spotN L kf n) < 0) = true) ↔ spotN L kf o < spotN L kf n := by
            rw [decide_eq_true_eq]
            unfold sgn
            grind
          dsimp only
          by_cases e : m = n
          · subst e
            rw [if_pos rfl, hrr m hm2, if_neg hni, if_neg hni, if_pos rfl, if_pos rfl, hct]
            by_cases z : spotN L kf o < spotN L kf m
            · rw [if_pos (hsg.mpr z), if_pos z]
            · rw [if_neg (fun w => z (hsg.mp w)), if_neg z]
          · rw [if_neg e, hrr m hm2, if_neg e, if_neg e]
        · rw [put_fun (e := fun m => .int (rr m)) hm]
          have e : (ns.map fun s => ((kN s, if s = n then D.int (rr n + (if decide (sgn (spotN L kf o - spotN L kf n) < 0) then 1 else 0)) else D.int (rr s)) : Key × D)) = ns.map fun s => (kN s, D.int (if s = n then rr n + (if decide (sgn (spotN L kf o - spotN L kf n) < 0) then 1 else 0) else rr s)) := List.map_congr_left fun s _ => by
            split <;> rfl
          rw [e]
      · have hb : o = n := by simpa using hb
        subst hb
        walk_at "go"
        refine ⟨⟨_, _, rfl⟩, rr, fun m hm2 => ?_, rfl⟩
        rw [hrr m hm2, hct, if_neg Rat.lt_irrefl, Int.add_zero]
    · rintro _ M ⟨⟨v, z, rfl⟩, rr, hrr, rfl⟩
      refine ⟨⟨_, _, _, rfl⟩, rr, fun m hm2 => ?_, rfl⟩
      rw [List.length_map, List.length_map, List.take_length] at hrr
      rw [hrr m hm2, take_get' hn]
      by_cases e : m ∈ ns.take i
      · rw [if_pos e, if_pos (List.mem_append_left _ e)]
      · rw [if_neg e]
        by_cases e2 : m = n
        · subst e2
          rw [if_pos rfl, if_pos (List.mem_append_right _ (by simp))]
          rfl
        · rw [if_neg e2, if_neg (fun z => (List.mem_append.mp z).elim e (fun w => e2 (List.mem_singleton.mp w)))]
  · rintro _ M ⟨⟨u, v, z, rfl⟩, rr, hrr, rfl⟩
    rw [List.length_map, List.length_map, List.take_length] at hrr
    walk_at "go"
    refine XE.sortK ?_
    walk_at "go"
    refine ⟨_, ns, _, _, rkN L ns kf, .fdct, by (rw [List.map_map]; try rfl), by omega, rfl, .raw .hd, fun m hm2 => ?_, .tl (.tl .hd), ?_⟩
    · rw [val_fun (e := fun m => .int (rr m)) hm2, hrr m hm2, if_pos hm2]
    · exact ⟨⟨[_, _], rfl⟩, hk⟩
end
end My

namespace My
open PySem L2 DL PyProof.Rows SX
local macro_rules | `(tactic| walk_at "bq") => `(tactic| first | exact BQ.mono (by assumption) (by decide) | exact BQ.mono (BQ.sub (by assumption) (by assumption)) (by decide) | exact BQ.mono (BQ.add (by assumption) (by assumption)) (by decide) | exact BQ.mono (BQ.mul (by assumption) (by assumption)) (by decide))
theorem new1 (n : Int) : dQ (Rat.divInt n 1) = dQ (n : Rat) := (dQ_of1 n).trans (dQ_int n).symm
/-- by how much a load's rank has grown -/
def growF (L : Option Int) (b : Rat) (kf : Str → List Kn) (n : Str) (t : Rat) (o : Str) : Int := if o = n then 0 else lapsB L (kf n) (kf o) t - lapsIn L (gapQ (kf n) (kf o) b)
def growQ (L : Option Int) (b : Rat) (ns : List Str) (kf : Str → List Kn) (n : Str) (t : Rat) : Int := (ns.map (growF L b kf n t)).sum
/-- valid arguments: loads, a name, a time -/
structure Ask (L : Option Int) (b : Rat) (ns : List Str) (kf : Str → List Kn) (n : Str) (t : Rat) : Prop where
  hL : Loads L b ns kf
  hm : n ∈ ns
  ht : BQ 200 t
  hb : b ≤ t
section
variable {L : Option Int} {b t : Rat} {ns : List Str} {kf : Str → List Kn} {n : Str}
theorem lapsIn_B2 {L : Option Int} {ks js : List Kn} {t : Rat} (h : Tw ks js t) (hL : LOK L) : B 202 (lapsIn L (gapQ ks js t)) := by
  obtain ⟨m, hm⟩ : ∃ m : Int, m = 2 ^ 200 := ⟨_, rfl⟩
  have hb := h.le
  have f1 : firstT ks ≤ t := by
    unfold laterB at hb
    grind
  have f2 : firstT js ≤ t := by
    unfold laterB at hb
    grind
  exact gapIn_B hm (fun l hl => (hL l hl).1) (posAt_abs h.k1.asc h.k1.ne h.k1.B f1 hm) (posAt_abs h.k2.asc h.k2.ne h.k2.B f2 hm)
theorem lapsB_B {L : Option Int} {ks js : List Kn} {t : Rat} (h : Tw ks js t) (hL : LOK L) : B 204 (lapsB L ks js t) := by
  have h1 := lapsIn_B2 h hL
  unfold lapsB
  split
  · split
    · exact (h1.sub (B.one (n := 1) (by decide))).mono (by decide)
    · rw [Int.sub_zero]
      exact h1.mono (by decide)
  · exact h1.mono (by decide)
theorem Ask.growB (h : Ask L b ns kf n t) : B 220 (growQ L b ns kf n t) := by
  refine (sum_B (n := 205) _ ns fun o ho => ?_).mono (by have := h.hL.len; omega)
  unfold growF
  split
  · exact B.zero
  · exact (lapsB_B (h.hL.tw h.hm ho h.ht h.hb) h.hL.lok).sub ((lapsIn_B2 (h.hL.tw h.hm ho h.hL.bb Rat.le_refl) h.hL.lok).mono (m := 204) (by decide))
end
def R_starting_order (C : Addr) (ds : List D) (r : D) : Prop := ∃ L b ns kf, ds = [dTabs C ns kf, dL L] ∧ Loads L b ns kf ∧ r = dOrd L ns kf
def R_need_load (C : Addr) (ds : List D) (r : D) : Prop := ∃ ns kf n, ds = [dTabs C ns kf, .str n] ∧ n ∈ ns ∧ r = .non
def R_begin_of (C : Addr) (ds : List D) (r : D) : Prop := ∃ L b ns kf, ds = [dTabs C ns kf] ∧ Loads L b ns kf ∧ r = dQ b
def R_need_moment (C : Addr) (ds : List D) (r : D) : Prop := ∃ L b ns kf n t, ds = [dTabs C ns kf, dQ t] ∧ Ask L b ns kf n t ∧ r = .non
def R_growth_of (C : Addr) (ds : List D) (r : D) : Prop := ∃ L b ns kf n t, ds = [dTabs C ns kf, .str n, dQ t, dL L] ∧ Ask L b ns kf n t ∧ r = .int (growQ L b ns kf n t)
def R_rank_at (C : Addr) (ds : List D) (r : D) : Prop := ∃ L b ns kf n t, ds = [dTabs C ns kf, .str n, dQ t, dL L] ∧ Ask L b ns kf n t ∧ r = .int (rkN L ns kf n + growQ L b ns kf n t)
def R_spot_floor (C : Addr) (ds : List D) (r : D) : Prop := ∃ L b ns kf n, ds = [dTabs C ns kf, .str n, dL L] ∧ Loads L b ns kf ∧ n ∈ ns ∧ r = .int (floorQ L (firstX (kf n)))
/-- where a load is that is held by wide carriers -/
def steps (L : Option Int) (b : Rat) (ns : List Str) (kf : Str → List Kn) (n : Str) (t : Rat) : Int := rkN L ns kf n + growQ L b ns kf n t + floorQ L (firstX (kf n)) * ns.length
def R_load_at (C : Addr) (ds : List D) (r : D) : Prop := ∃ L b ns kf n t w, ds = [dTabs C ns kf, .str n, dQ t, dQ w, dL L] ∧ Ask L b ns kf n t ∧ BQ 401 w ∧ r = dQ (posAt (kf n) t + w * (steps L b ns kf n t : Rat))
theorem u_starting_order {C : Addr} {L : Option Int} {b : Rat} {ns : List Str} {kf : Str → List Kn} (h : Loads L b ns kf) : R_starting_order C [dTabs C ns kf, dL L] (dOrd L ns kf) := ⟨L, b, ns, kf, rfl, h, rfl⟩
theorem u_need_load {C : Addr} {ns : List Str} {kf : Str → List Kn} {n : Str} (h : n ∈ ns) : R_need_load C [dTabs C ns kf, .str n] .non := ⟨ns, kf, n, rfl, h, rfl⟩
theorem u_begin_of {C : Addr} {L : Option Int} {b : Rat} {ns : List Str} {kf : Str → List Kn} (h : Loads L b ns kf) : R_begin_of C [dTabs C ns kf] (dQ b) := ⟨L, b, ns, kf, rfl, h, rfl⟩
theorem u_need_moment {C : Addr} {L : Option Int} {b t : Rat} {ns : List Str} {kf : Str → List Kn} {n : Str} (h : Ask L b ns kf n t) : R_need_moment C [dTabs C ns kf, dQ t] .non := ⟨L, b, ns, kf, n, t, rfl, h, rfl⟩
theorem u_growth_of {C : Addr} {L : Option Int} {b t : Rat} {ns : List Str} {kf : Str → List Kn} {n : Str} (h : Ask L b ns kf n t) : R_growth_of C [dTabs C ns kf, .str n, dQ t, dL L] (.int (growQ L b ns kf n t)) := ⟨L, b, ns, kf, n, t, rfl, h, rfl⟩
theorem u_rank_at {C : Addr} {L : Option Int} {b t : Rat} {ns : List Str} {kf : Str → List Kn} {n : Str} (h : Ask L b ns kf n t) : R_rank_at C [dTabs C ns kf, .str n, dQ t, dL L] (.int (rkN L ns kf n + growQ L b ns kf n t)) := ⟨L, b, ns, kf, n, t, rfl, h, rfl⟩
theorem u_spot_floor {C : Addr} {L : Option Int} {b : Rat} {ns : List Str} {kf : Str → List Kn} {n : Str} (h : Loads L b ns kf) (hm : n ∈ ns) : R_spot_floor C [dTabs C ns kf, .str n, dL L] (.int (floorQ L (firstX (kf n)))) := ⟨L, b, ns, kf, n, rfl, h, hm, rfl⟩
theorem u_load_at {C : Addr} {L : Option Int} {b t w : Rat} {ns : List Str} {kf : Str → List Kn} {n : Str} (h : Ask L b ns kf n t) (hw : BQ 401 w) : R_load_at C [dTabs C ns kf, .str n, dQ t, dQ w, dL L] (dQ (posAt (kf n) t + w * (steps L b ns kf n t : Rat))) := ⟨L, b, ns, kf, n, t, w, rfl, h, hw, rfl⟩
local macro_rules | `(tactic| walk_at "go") => `(tactic| repeat (first
  | ((with_reducible refine idE ?_); first
    | ((with_reducible apply XE.var); · exact rfl)
    | (with_reducible first
      | refine XE.op ?_
      | refine XE.int ?_
      | refine XE.str ?_
      | refine XE.ite ?_
      | refine XE.cb ?_
      | refine XE.tup ?_
      | refine XE.bl ?_
      | refine XE.non ?_
      | refine XE.ty ?_
      | refine XE.un ?_
      | refine XE.andV ?_
      | refine XE.orV ?_
      | refine XE.notV ?_
      | refine XE.slice ?_
      | refine XE.chain ?_))
  | ((with_reducible refine idE ?_); (with_reducible refine XE.callP ?_ (fun _ => rfl) (dD := []) (fun _ => .nil) ?_); (focus (first | with_reducible exact mo_R | walk_at "mo")))
  | ((with_reducible refine idE ?_); (with_reducible refine XE.methP ?_ (fun _ => rfl) (dD := []) (fun _ => .nil) ?_); (focus (first | with_reducible exact mo_R | walk_at "mo")))
  | ((with_reducible refine idE ?_); (with_reducible refine XE.callT mo_R (fun _ => rfl) (dD := []) (fun _ => .nil) ?_))
  | ((with_reducible refine idE ?_); (with_reducible refine XE.callNP ?_ (fun _ => rfl) ?_); (focus (first | with_reducible exact mo_R | walk_at "mo")))
  | ((with_reducible refine idE ?_); (with_reducible refine XE.callNTP mo_R (fun _ => rfl) ?_))
  | ((with_reducible refine idA ?_); with_reducible first
      | refine XA.nil ?_
      | refine XA.cons ?_)
  | ((with_reducible refine idR ?_); first
      | (with_reducible first
        | refine XR.add_int ?_
        | refine XR.eq_int ?_
        | refine XR.ne_int ?_
        | refine XR.i0 ?_
        | refine XR.subB ?_
        | refine XR.ne_dQ ?_
        | refine XR.eq_dQ ?_
        | refine XR.b0 ?_
        | refine XR.isN ?_
        | refine XR.ntN ?_)
      | refine XR.ix_tup rfl ?_
      | refine XR.ix_lst (by first | exact LsAt.lst | exact LsAt.raw At.hd) rfl ?_)
  | ((with_reducible refine idS ?_); with_reducible first
      | refine XS.seq ?_
      | refine XS.asg ?_
      | refine XS.ret ?_
      | refine XS.ifs ?_
      | refine XS.next ?_
      | refine XS.drop ?_
      | refine XS.par ?_
      | refine XS.par3 ?_)
  | ((with_reducible refine idT ?_); with_reducible first
      | refine XT.tst ?_
      | refine XT.bool ?_
      | refine XT.and ?_
      | refine XT.or ?_
      | refine XT.not ?_)
  | ((with_reducible refine idT ?_); refine XT.yes ?_)
  | ((with_reducible refine idS ?_); refine XS.aug rfl ?_)
  | with_reducible refine ex1 ?_
  | refine pickF rfl ?_
  | refine pickT rfl ?_
  | ((with_reducible refine idO ?_); with_reducible first
      | refine XO.none ?_
      | refine XO.some ?_)
  | ((with_reducible refine idGs ?_); with_reducible first
      | refine XGs.nil ?_
      | refine XGs.cons ?_)
  | ((with_reducible refine idG ?_); with_reducible first
      | refine XG.name (by simp) ?_
      | refine XG.tup rfl ?_)
  | with_reducible refine XC.abs ?_
  | with_reducible refine XU.neg ?_
  | refine ⟨_, _, rfl, ?_⟩
  | refine ⟨_, _, _, rfl, ?_⟩
  | refine ⟨_, rfl, ?_⟩
  | refine ⟨show (_ : Nat) + 1 ≤ 16000000 by simp only [List.length_cons, List.length_nil] <;> decide, ?_⟩
  | refine ⟨show (0 : Nat) ≤ 16000000 by decide, ?_⟩
  | refine ⟨rfl, rfl, rfl, _, (by walk_at "use"), ?_⟩
  | refine ⟨rfl, rfl, rfl, (by walk_at "tab"), _, (by walk_at "use"), ?_⟩
  | refine ⟨rfl, (by walk_at "tab"), _, (by walk_at "use"), ?_⟩
  | refine ⟨_, .ins, rfl, ?_⟩
  | ((refine ⟨rfl, ?_⟩); (with_reducible refine u_is_lessA ?_ ?_ ?_); (focus walk_at "bq"); (focus walk_at "bq"))
  | ((refine ⟨rfl, ?_⟩); (with_reducible refine u_sum_ofA ?_ ?_ ?_); (focus walk_at "bq"); (focus walk_at "bq"))
  | ((refine ⟨rfl, ?_⟩); (with_reducible refine u_rest_ofA ?_ ?_ ?_); (focus walk_at "bq"); (focus walk_at "bq"))
  | ((refine ⟨rfl, ?_⟩); (with_reducible refine u_product_ofA ?_ ?_ ?_); (focus walk_at "bq"); (focus walk_at "bq"))
  | refine ⟨rfl, _, (by walk_at "use"), ?_⟩
  | dsimp only [List.set_cons_zero, List.set_cons_succ]))
local macro_rules | `(tactic| walk_at "sp") => `(tactic| first | refine ⟨[], _, rfl, rfl, ?_⟩ | refine ⟨rfl, ?_⟩)
local macro_rules | `(tactic| walk_at "tab") => `(tactic| first | exact .hd | exact .tl .hd | exact .tl (.tl .hd) | exact .tl (.tl (.tl .hd)))
local macro_rules | `(tactic| walk_at "sp1") => `(tactic| first | refine ⟨[_], _, rfl, rfl, ?_⟩ | refine ⟨rfl, ?_⟩)
local macro_rules | `(tactic| walk_at "sp2") => `(tactic| first | refine ⟨[_, _], _, rfl, rfl, ?_⟩ | refine ⟨rfl, ?_⟩)

local macro_rules | `(tactic| walk_at "mo") => `(tactic| first | exact mo_is_less | exact mo_sum_of | exact mo_rest_of | exact mo_product_of | exact mo_share_of | exact mo_is_whole | exact mo_new_fraction)
local macro_rules | `(tactic| walk_at "use") => `(tactic| (try dsimp only [List.cons_append, List.nil_append, List.append_nil]); first | ((with_reducible apply u_tbegin) <;> first | assumption | walk_at "bq") | ((with_reducible apply u_tat) <;> first | assumption | walk_at "bq") | ((with_reducible apply u_need_length) <;> first | assumption | walk_at "bq") | ((with_reducible apply u_spot_of) <;> first | assumption | walk_at "bq") | ((with_reducible apply u_order_of) <;> first | assumption | walk_at "bq") | ((with_reducible apply u_ordered) <;> first | assumption | walk_at "bq") | ((with_reducible apply u_need_tables) <;> first | assumption | walk_at "bq") | ((with_reducible apply u_starting_order) <;> first | assumption | walk_at "bq") | ((with_reducible apply u_need_load) <;> first | assumption | walk_at "bq") | ((with_reducible apply u_begin_of) <;> first | assumption | walk_at "bq") | ((with_reducible apply u_need_moment) <;> first | assumption | walk_at "bq") | ((with_reducible apply u_growth_of) <;> first | assumption | walk_at "bq") | ((with_reducible apply u_rank_at) <;> first | assumption | walk_at "bq") | ((with_reducible apply u_spot_floor) <;> first | assumption | walk_at "bq") | ((with_reducible apply u_laps_before) <;> first | assumption | walk_at "bq") | ((with_reducible apply u_laps) <;> first | assumption | walk_at "bq") | ((with_reducible apply u_load_at) <;> first | assumption | walk_at "bq") | exact u_tbegin (by assumption) | exact u_tat (by assumption) (by assumption) (by assumption) | exact u_need_length (by assumption) | exact u_spot_of (by assumption) (by assumption) | exact u_order_of (by walk_at "bq") (by walk_at "bq") | exact u_ordered (by assumption) | exact u_need_tables (by assumption) | exact u_starting_order (by assumption) | exact u_need_load (by assumption) | exact u_begin_of (by assumption) | exact u_need_moment (by assumption) | exact u_growth_of (by assumption) | exact u_rank_at (by assumption) | exact u_spot_floor (by assumption) (by assumption) | exact u_laps_before (by assumption) (by assumption) (by assumption) | exact u_laps (by assumption) (by assumption) | exact u_load_at (by assumption) (by walk_at "bq"))
section
variable {P : Program} {w : World} {K : PySem.W.Frag} {mg : Str → Option Value} {base : Heap}
theorem ok_starting_order (T : Txt K mg) (B : Tbs T base) : FnOk P w K mg base (L2.CX P w) 11 T.starting_order.a T.starting_order.fd ["tables", "length"] (spD K 2 (purT T.P_ordered qlam ((spR (R_starting_order T.C_Timetable))))) := by
  refine fn_okPT T.starting_order.F rfl sc_starting_order rfl fun A outer s H E hr => ?_
  have nd := sc_starting_order.nd
  have hu64 := hr.units
  have hu65 := hu65_of hr
  have hu1 := hu_of hr
  refine ⟨_, (pss_one (ps_ret (pe_call (ok_ordered T B) (hr.mono (by decide)) rfl T.ordered.g T.ordered.F.kp (b_ordered T) .nil px0 (pa_cons (pv 0) (pa_cons (pe_ix (ix_K (K := K) rfl) (pe_lc (own := [("table", 2)]) (g := gName 2) (by rfl) nd (pi_values (pv 0)) (blkOk_by (N := N_starting_order) (sc := defScope s_starting_order) (by decide +kernel)) (fun _ _ _ _ _ => (pg_name (i := 2) nd rfl (by first | exact Or.inl rfl | exact Or.inr rfl))) (fun _ _ _ _ _ => pts_nil) (fun _ _ _ _ _ => (pe_meth0 (pv 2) T.cl_Timetable T.Timetable_begin.me (ok_Timetable_begin T) (hr.mono (by decide)) (b_Timetable_begin T) .nil passL))) pe_int (fun _ _ => rfl)) (pa_cons (pv 1) pa_nil)))))), fun ds kk xx hl h => ?_⟩
  try dsimp only [cxOf]
  obtain ⟨_, ⟨L, b, ns, kf, rfl, hL, rfl⟩, hk⟩ := h
  have hlen := hL.len
  walk_at "go"
  refine XE.lc (fun _ => some (dQ b)) (XI.vals ?_)
  walk_at "go"
  rw [List.map_map]
  refine ⟨by rw [List.length_map]; omega, fun x hx => ?_, ?_⟩
  · obtain ⟨n, hm, hxe⟩ := List.mem_map.mp hx
    have hxe : dTab T.C_Timetable (kf n) = x := hxe
    subst hxe
    have kt := hL.kt n hm
    walk_at "go"
    rw [hL.beg n hm]
    exact ⟨rfl, rfl⟩
  obtain ⟨n, r, rfl⟩ : ∃ n r, ns = n :: r := List.exists_cons_of_ne_nil hL.ne
  walk_at "go"
  refine XR.ix_lst .lst (at_nat (x := dQ b) (z := 0) (j := 0) rfl rfl) ?_
  walk_at "go"
  exact ⟨⟨[], rfl⟩, hk⟩
theorem ok_need_load (T : Txt K mg) : FnOk P w K mg base (L2.CX P w) 3 T.need_load.a T.need_load.fd ["tables", "name"] (spD K 2 (pur ((spR (R_need_load T.C_Timetable))))) := by
  refine fn_okP T.need_load.F sc_need_load rfl fun cdv A outer s H E hr => ?_
  have nd := sc_need_load.nd
  have hu64 := hr.units
  have hu65 := hu65_of hr
  have hu1 := hu_of hr
  refine ⟨_, (pss_one (ps_if (PW.pt (pw_or (pt_not (pt_val (pe_callB (cr_isiK (K := K) rfl) (by rfl) T.m_isinstance boot_isinstance (pa_cons (pv 1) (pa_cons (pe_bltn (v := .ty "str") (by rfl) T.m_str boot_str rfl) pa_nil))))) (pw_or1 (pt_cmp (pc_dnotin hu1 (pv 1) (pv 0))))))
      (pss_one ps_never)
      pss_nil)), fun ds kk xx hl h => ?_⟩
  try dsimp only [cxOf]
  obtain ⟨_, ⟨ns, kf, n, rfl, hm, rfl⟩, hk⟩ := h
  walk_at "go"
  refine XC.isT rfl (by simp) ?_
  walk_at "go"
  refine XE.dniG ?_
  walk_at "go"
  refine ⟨_, kN n, .fdct, rfl, ?_⟩
  rw [val_fun (e := fun m => dTab T.C_Timetable (kf m)) hm]
  walk_at "go"
  exact hk
theorem ok_begin_of (T : Txt K mg) : FnOk P w K mg base (L2.CX P w) 2 T.begin_of.a T.begin_of.fd ["tables"] (spD K 1 (pur ((spR (R_begin_of T.C_Timetable))))) := by
  refine fn_okP T.begin_of.F sc_begin_of rfl fun cdv A outer s H E hr => ?_
  have nd := sc_begin_of.nd
  have hu64 := hr.units
  have hu65 := hu65_of hr
  have hu1 := hu_of hr
  refine ⟨_, (pss_one (ps_ret (pe_callB (cr_minDK (K := K) rfl (by rfl) hu65) (by rfl) T.m_min boot_min (pa_cons (pe_lc (own := [("name", 1)]) (g := gName 1) (by rfl) nd (pi_keys (pv 0)) (blkOk_by (N := N_begin_of) (sc := defScope s_begin_of) (by decide +kernel)) (fun _ _ _ _ _ => (pg_name (i := 1) nd rfl (by first | exact Or.inl rfl | exact Or.inr rfl))) (fun _ _ _ _ _ => pts_nil) (fun _ _ _ _ _ => (pe_meth0 (pe_dget hu1 (pv 0) (pv 1) (fun _ _ => rfl)) T.cl_Timetable T.Timetable_begin.me (ok_Timetable_begin T) (hr.mono (by decide)) (b_Timetable_begin T) .nil passL))) pa_nil)))), fun ds kk xx hl h => ?_⟩
  try dsimp only [cxOf]
  obtain ⟨_, ⟨L, b, ns, kf, rfl, hL, rfl⟩, hk⟩ := h
  have hlen := hL.len
  walk_at "go"
  refine XE.lc (fun _ => some (dQ b)) (XI.keys ?_)
  walk_at "go"
  rw [List.map_map]
  refine ⟨by rw [List.length_map]; omega, fun x hx => ?_, ?_⟩
  · obtain ⟨n, hm, hxe⟩ := List.mem_map.mp hx
    have hxe : D.str n = x := hxe
    subst hxe
    have kt := hL.kt n hm
    walk_at "go"
    refine XE.dgetG ?_
    walk_at "go"
    refine ⟨_, kN n, _, .fdct, rfl, val_fun (e := fun m => dTab T.C_Timetable (kf m)) hm, ?_⟩
    walk_at "go"
    rw [hL.beg n hm]
    exact ⟨rfl, rfl⟩
  walk_at "go"
  refine XC.minQ (b := b) (qs := ns.map fun _ => b) ?_ ?_ ?_ ?_
  · rw [List.map_map, List.filterMap_map]
    have e : ns.filterMap ((fun _ => some (dQ b)) ∘ ((fun e : Key × D => keyD e.1) ∘ fun n => (kN n, dTab T.C_Timetable (kf n)))) = ns.map (dQ ∘ fun _ => b) := congrFun (List.filterMap_eq_map (f := dQ ∘ fun _ => b)) ns
    rw [e]
    exact .lst
  · intro z
    exact hL.ne (List.map_eq_nil_iff.mp z)
  · intro q hq
    obtain ⟨_, _, rfl⟩ := List.mem_map.mp hq
    rfl
  · exact hk
theorem ok_need_moment (T : Txt K mg) : FnOk P w K mg base (L2.CX P w) 3 T.need_moment.a T.need_moment.fd ["tables", "t"] (spD K 2 (pur ((spR (R_need_moment T.C_Timetable))))) := by
  refine fn_okP T.need_moment.F sc_need_moment rfl fun cdv A outer s H E hr => ?_
  have nd := sc_need_moment.nd
  have hu64 := hr.units
  have hu65 := hu65_of hr
  have hu1 := hu_of hr
  refine ⟨_, (pss_one (ps_if (pt_val (pe_call (ok_is_less T) (hr.mono (by decide)) rfl T.is_less.g T.is_less.F.kp (b_is_less T) .nil px0 (pa_cons (pv 1) (pa_cons (pe_call (ok_begin_of T) (hr.mono (by decide)) rfl T.begin_of.g T.begin_of.F.kp (b_begin_of T) .nil px0 (pa_cons (pv 0) pa_nil)) pa_nil))))
      (pss_one ps_never)
      pss_nil)), fun ds kk xx hl h => ?_⟩
  try dsimp only [cxOf]
  obtain ⟨_, ⟨L, b, ns, kf, n, t, rfl, ⟨hL, hm, ht, hb⟩, rfl⟩, hk⟩ := h
  have bb := hL.bb
  walk_at "go"
  refine pickF (decide_eq_false (by grind)) ?_
  walk_at "go"
  exact hk
theorem ok_growth_of (T : Txt K mg) : FnOk P w K mg base (L2.CX P w) 10 T.growth_of.a T.growth_of.fd ["tables", "name", "t", "length"] (spD K 4 (pur ((spR (R_growth_of T.C_Timetable))))) := by
  refine fn_okP T.growth_of.F sc_growth_of rfl fun cdv A outer s H E hr => ?_
  have nd := sc_growth_of.nd
  have hu64 := hr.units
  have hu65 := hu65_of hr
  have hu1 := hu_of hr
  refine ⟨_, (pss_cons (ps_par3 (i := 4) (j := 5) (l := 6) rfl nd rfl rfl rfl (by decide) (by decide) (by decide) rfl rfl rfl (pa_cons (pe_call (ok_begin_of T) (hr.mono (by decide)) rfl T.begin_of.g T.begin_of.F.kp (b_begin_of T) .nil px0 (pa_cons (pv 0) pa_nil)) (pa_cons (pe_dget hu1 (pv 0) (pv 1) (fun _ _ => rfl)) (pa_cons pe_int pa_nil))) (by rfl))
      (pss_cons (ps_for (passes_of rfl) rfl (pi_keys (pv 0)) (pg_name (i := 7) nd rfl (by first | exact Or.inl rfl | exact Or.inr rfl))
      (pss_one (ps_if (pt_cmpR (op_neK (K := K) rfl hu64) (pv 7) (pv 1) (nomark _))
      (pss_cons (ps_set (i := 8) nd rfl (by first | exact Or.inl rfl | exact Or.inr rfl) (pe_call (ok_laps_before T) (hr.mono (by decide)) rfl T.laps_before.g T.laps_before.F.kp (b_laps_before T) .nil px0 (pa_cons (pv 5) (pa_cons (pe_dget hu1 (pv 0) (pv 7) (fun _ _ => rfl)) (pa_cons (pv 2) (pa_cons (pv 3) pa_nil))))))
      (pss_one (ps_aug (i := 6) nd rfl (by first | exact Or.inl rfl | exact Or.inr rfl) (pe_op op_sub (pv 8) (pe_callN (ok_laps T) (hr.mono (by decide)) rfl T.laps.g T.laps.F.kp (bk_laps_3_length T) px0 (pa_cons (pv 5) (pa_cons (pe_dget hu1 (pv 0) (pv 7) (fun _ _ => rfl)) (pa_cons (pv 4) pa_nil))) (pk_cons (pv 3) pk_nil))) ip_add)))
      pss_nil)))
      (pss_one (ps_ret (pv 6))))), fun ds kk xx hl h => ?_⟩
  try dsimp only [cxOf]
  obtain ⟨_, ⟨L, b, ns, kf, n, t, rfl, hA, rfl⟩, hk⟩ := h
  obtain ⟨hL, hm, ht, hb⟩ := hA
  have lok := hL.lok
  have gt : ∀ n ∈ ns, valD (ns.map fun m => (kN m, dTab T.C_Timetable (kf m))) (kN n) = some (dTab T.C_Timetable (kf n)) := fun n hn => val_fun (e := fun m => dTab T.C_Timetable (kf m)) hn
  walk_at "go"
  refine XE.dgetG ?_
  walk_at "go"
  refine ⟨_, kN n, _, .fdct, rfl, gt n hm, ?_⟩
  walk_at "go"
  refine XS.for [7] (XI.keys ?_)
  walk_at "go"
  refine ⟨fun i ds M => (∃ u v, ds = [some (dTabs T.C_Timetable ns kf), some (.str n), some (dQ t), some (dL L), some (dQ b), some (dTab T.C_Timetable (kf n)), some (.int (((ns.take i).map (growF L b kf n t)).sum)), u, v]) ∧ M = [], ⟨⟨_, _, rfl⟩, rfl⟩, ?_, ?_⟩
  · rintro i x _ M hx ⟨⟨u, v, rfl⟩, rfl⟩
    rw [List.map_map] at hx
    obtain ⟨o, ho, hxe⟩ := map_get hx
    have hxe : x = D.str o := hxe
    subst hxe
    have hmo := List.mem_of_getElem? ho
    have e : ((ns.take (i + 1)).map (growF L b kf n t)).sum = ((ns.take i).map (growF L b kf n t)).sum + growF L b kf n t o := by
      rw [take_get' ho, List.map_append, List.sum_append]
      simp
    walk_at "go"
    refine XR.ne_str ?_
    walk_at "go"
    refine ⟨fun hc => ?_, fun hc => ?_⟩
    · have hc : o ≠ n := by simpa using hc
      have tw := hL.tw hm hmo ht hb
      have twb := hL.tw hm hmo hL.bb Rat.le_refl
      have two := hL.two hm hmo (Ne.symm hc)
      have eg : growF L b kf n t o = lapsB L (kf n) (kf o) t - lapsIn L (gapQ (kf n) (kf o) b) := if_neg hc
      walk_at "go"
      refine XE.dgetG ?_
      walk_at "go"
      refine ⟨_, kN o, _, .fdct, rfl, gt o hmo, ?_⟩
      walk_at "go"
      refine XE.dgetG ?_
      walk_at "go"
      refine ⟨_, kN o, _, .fdct, rfl, gt o hmo, ?_⟩
      walk_at "go"
      rw [eg] at e
      exact ⟨⟨_, _, by (rw [e]; try rfl)⟩, rfl⟩
    · have hc : o = n := by simpa using hc
      have eg : growF L b kf n t o = 0 := if_pos hc
      walk_at "go"
      rw [eg, Int.add_zero] at e
      exact ⟨⟨_, _, by (rw [e]; try rfl)⟩, rfl⟩
  · rintro _ M ⟨⟨u, v, rfl⟩, rfl⟩
    rw [List.length_map, List.length_map, List.take_length]
    walk_at "go"
    exact hk
theorem ok_rank_at (T : Txt K mg) (B : Tbs T base) : FnOk P w K mg base (L2.CX P w) 12 T.rank_at.a T.rank_at.fd ["tables", "name", "t", "length"] (spD K 4 (purT T.P_ordered qlam ((spR (R_rank_at T.C_Timetable))))) := by
  refine fn_okPT T.rank_at.F rfl sc_rank_at rfl fun A outer s H E hr => ?_
  have nd := sc_rank_at.nd
  have hu64 := hr.units
  have hu65 := hu65_of hr
  have hu1 := hu_of hr
  refine ⟨_, (pss_one (ps_ret (pe_op (op_addK (K := K) rfl) (pe_bmK (K := K) rfl PySem.F.plainAttrs_list PySem.F.slot_list_index PySem.F.type_list_index mt_index (pe_call (ok_starting_order T B) (hr.mono (by decide)) rfl T.starting_order.g T.starting_order.F.kp (b_starting_order T) .nil px0 (pa_cons (pv 0) (pa_cons (pv 3) pa_nil))) (pa_cons (pv 1) pa_nil)) (pe_call (ok_growth_of T) (hr.mono (by decide)) rfl T.growth_of.g T.growth_of.F.kp (b_growth_of T) .nil px0 (pa_cons (pv 0) (pa_cons (pv 1) (pa_cons (pv 2) (pa_cons (pv 3) pa_nil)))))))), fun ds kk xx hl h => ?_⟩
  try dsimp only [cxOf]
  obtain ⟨_, ⟨L, b, ns, kf, n, t, rfl, hA, rfl⟩, hk⟩ := h
  obtain ⟨hL, hm, ht, hb⟩ := id hA
  walk_at "go"
  refine XE.bm ?_
  walk_at "go"
  refine ⟨ty_lst .lst, ?_⟩
  walk_at "go"
  have hg := byRank_get hL.nd hL.inj (rk := rkN L ns kf) (fun a _ => rfl) hm
  refine XM.indexS .lst hg (fun m z hm2 hz => ?_) ?_
  · intro e
    subst e
    have nd2 : (byRank (rkN L ns kf) ns).Nodup := (byRank_perm _ _).nodup_iff.mpr hL.nd
    have := List.pairwise_iff_getElem.mp nd2 m _ (List.getElem?_eq_some_iff.mp hz).1 (List.getElem?_eq_some_iff.mp hg).1 hm2
    exact this ((List.getElem?_eq_some_iff.mp hz).2.trans (List.getElem?_eq_some_iff.mp hg).2.symm)
  walk_at "go"
  exact ⟨⟨[], rfl⟩, hk⟩
theorem ok_spot_floor (T : Txt K mg) : FnOk P w K mg base (L2.CX P w) 7 T.spot_floor.a T.spot_floor.fd ["tables", "name", "length"] (spD K 3 (pur ((spR (R_spot_floor T.C_Timetable))))) := by
  refine fn_okP T.spot_floor.F sc_spot_floor rfl fun cdv A outer s H E hr => ?_
  have nd := sc_spot_floor.nd
  have hu64 := hr.units
  have hu65 := hu65_of hr
  have hu1 := hu_of hr
  refine ⟨_, (pss_cons (ps_if (pt_cmpR op_isN' (pv 2) pe_non (nomark _))
      (pss_one (ps_ret pe_int))
      pss_nil)
      (pss_one (ps_ret (pe_call (ok_floor_of T) (hr.mono (by decide)) rfl T.floor_of.g T.floor_of.F.kp (b_floor_of T) .nil px0 (pa_cons (pe_call (ok_share_of T) (hr.mono (by decide)) rfl T.share_of.g T.share_of.F.kp (b_share_of T) .nil px0 (pa_cons (pe_meth (pe_dget hu1 (pv 0) (pv 1) (fun _ _ => rfl)) T.cl_Timetable T.Timetable_at.me (ok_Timetable_at T) (hr.mono (by decide)) (b_Timetable_at T) .nil px0 (pa_cons (pe_call (ok_begin_of T) (hr.mono (by decide)) rfl T.begin_of.g T.begin_of.F.kp (b_begin_of T) .nil px0 (pa_cons (pv 0) pa_nil)) pa_nil)) (pa_cons (pe_call (ok_new_fraction T) (hr.mono (by decide)) rfl T.new_fraction.g T.new_fraction.F.kp (bd_new_fraction_1 T).choose_spec.2 (bd_new_fraction_1 T).choose_spec.1 px0 (pa_cons (pv 2) pa_nil)) pa_nil))) pa_nil))))), fun ds kk xx hl h => ?_⟩
  try dsimp only [cxOf]
  obtain ⟨_, ⟨L, b, ns, kf, n, rfl, hL, hm, rfl⟩, hk⟩ := h
  cases L with
  | none =>
    dsimp only [dL]
    walk_at "go"
    exact hk
  | some l =>
    obtain ⟨h1, h2⟩ := hL.lok l rfl
    have bb := hL.bb
    have kt := hL.kt n hm
    have fl : firstT (kf n) ≤ b := by rw [hL.beg n hm]; exact Rat.le_refl
    have bp := kt.pos bb
    have bi := BQ.int h2 (by decide)
    have bd : BQ 1604 (posAt (kf n) b / (l : Rat)) := bp.div bi (int_ne h1)
    dsimp only [dL]
    walk_at "go"
    refine XE.dgetG ?_
    walk_at "go"
    refine ⟨_, kN n, _, .fdct, rfl, val_fun (e := fun m => dTab T.C_Timetable (kf m)) hm, ?_⟩
    walk_at "go"
    refine XE.callP mo_new_fraction (fun _ => rfl) (dD := [.int 1]) (fun _ => .cons (.int _) .nil) ?_
    walk_at "go"
    refine ⟨rfl, l, 1, 1, rfl, by decide, DL.B.one (by decide), by decide, by decide, ?_⟩
    rw [new1]
    walk_at "go"
    refine ⟨rfl, u_share_of (by walk_at "bq") (by walk_at "bq") (int_ne h1) ?_⟩
    walk_at "go"
    refine ⟨rfl, _, u_floor_of (by walk_at "bq"), ?_⟩
    rw [hL.pos hm]
    exact hk
theorem ok_load_at (T : Txt K mg) (B : Tbs T base) : FnOk P w K mg base (L2.CX P w) 13 T.load_at.a T.load_at.fd ["tables", "name", "t", "width", "length"] (spD K 5 (purT T.P_ordered qlam ((spR (R_load_at T.C_Timetable))))) := by
  refine fn_okPT T.load_at.F rfl sc_load_at rfl fun A outer s H E hr => ?_
  have nd := sc_load_at.nd
  have hu64 := hr.units
  have hu65 := hu65_of hr
  have hu1 := hu_of hr
  refine ⟨_, (pss_cons (ps_expr (pe_call (ok_need_tables T) (hr.mono (by decide)) rfl T.need_tables.g T.need_tables.F.kp (b_need_tables T) .nil px0 (pa_cons (pv 0) (pa_cons (pv 4) pa_nil))))
      (pss_cons (ps_expr (pe_call (ok_need_load T) (hr.mono (by decide)) rfl T.need_load.g T.need_load.F.kp (b_need_load T) .nil px0 (pa_cons (pv 0) (pa_cons (pv 1) pa_nil))))
      (pss_cons (ps_expr (pe_call (ok_need_moment T) (hr.mono (by decide)) rfl T.need_moment.g T.need_moment.F.kp (b_need_moment T) .nil px0 (pa_cons (pv 0) (pa_cons (pv 2) pa_nil))))
      (pss_cons (ps_set (i := 5) nd rfl (by first | exact Or.inl rfl | exact Or.inr rfl) (pe_op (op_addK (K := K) rfl) (pe_call (ok_rank_at T B) (hr.mono (by decide)) rfl T.rank_at.g T.rank_at.F.kp (b_rank_at T) .nil px0 (pa_cons (pv 0) (pa_cons (pv 1) (pa_cons (pv 2) (pa_cons (pv 4) pa_nil))))) (pe_op op_mulW (pe_call (ok_spot_floor T) (hr.mono (by decide)) rfl T.spot_floor.g T.spot_floor.F.kp (b_spot_floor T) .nil px0 (pa_cons (pv 0) (pa_cons (pv 1) (pa_cons (pv 4) pa_nil)))) (pe_callB (cr_lenG (K := K) rfl) (by rfl) T.m_len boot_len (pa_cons (pv 0) pa_nil)))))
      (pss_one (ps_ret (pe_call (ok_sum_of T) (hr.mono (by decide)) rfl T.sum_of.g T.sum_of.F.kp (b_sum_of T) .nil px0 (pa_cons (pe_meth (pe_dget hu1 (pv 0) (pv 1) (fun _ _ => rfl)) T.cl_Timetable T.Timetable_at.me (ok_Timetable_at T) (hr.mono (by decide)) (b_Timetable_at T) .nil px0 (pa_cons (pv 2) pa_nil)) (pa_cons (pe_call (ok_product_of T) (hr.mono (by decide)) rfl T.product_of.g T.product_of.F.kp (b_product_of T) .nil px0 (pa_cons (pv 3) (pa_cons (pe_call (ok_new_fraction T) (hr.mono (by decide)) rfl T.new_fraction.g T.new_fraction.F.kp (bd_new_fraction_1 T).choose_spec.2 (bd_new_fraction_1 T).choose_spec.1 px0 (pa_cons (pv 5) pa_nil)) pa_nil))) pa_nil))))))))), fun ds kk xx hl h => ?_⟩
  try dsimp only [cxOf]
  obtain ⟨_, ⟨L, b, ns, kf, n, t, wq, rfl, hA, hw, rfl⟩, hk⟩ := h
  obtain ⟨hL, hm, ht, hb⟩ := id hA
  have hlen := hL.len
  have kt := hL.kt n hm
  have fl : firstT (kf n) ≤ t := by rw [hL.beg n hm]; exact hb
  have bp := kt.pos ht
  have fB := floorQ_B (m := 200) hL.lok (hL.fx hm) (by decide)
  have lB : DL.B 200 (ns.length : Int) := by
    show (ns.length : Int).natAbs < 2 ^ 200
    rw [Int.natAbs_natCast]
    exact Nat.lt_of_le_of_lt hlen (by decide)
  have rB : DL.B 200 (rkN L ns kf n) := by
    show ((cntV (spotN L kf) ns n : Nat) : Int).natAbs < 2 ^ 200
    rw [Int.natAbs_natCast]
    exact Nat.lt_of_le_of_lt (Nat.le_trans List.countP_le_length hlen) (by decide)
  have sB : DL.B 3102 (steps L b ns kf n t) := ((rB.add hA.growB).add (fB.mul lB)).mono (by decide)
  have sQ : BQ 3102 (steps L b ns kf n t : Rat) := BQ.int sB (by decide)
  have mQ : BQ 3503 (wq * (steps L b ns kf n t : Rat)) := hw.mul sQ
  walk_at "go"
  refine XC.lenD .fdct ?_
  rw [List.length_map]
  walk_at "go"
  refine XR.i (fB.mulOk lB (by decide) (by decide) (by decide)) ?_
  walk_at "go"
  refine XE.dgetG ?_
  walk_at "go"
  refine ⟨_, kN n, _, .fdct, rfl, val_fun (e := fun m => dTab T.C_Timetable (kf m)) hm, ?_⟩
  walk_at "go"
  refine XE.callP mo_new_fraction (fun _ => rfl) (dD := [.int 1]) (fun _ => .cons (.int _) .nil) ?_
  walk_at "go"
  refine ⟨rfl, steps L b ns kf n t, 1, 1, rfl, by decide, DL.B.one (by decide), by decide, by decide, ?_⟩
  rw [new1]
  walk_at "go"
  exact ⟨⟨[], rfl⟩, hk⟩
end
end My

namespace My
open PySem L2 DL PyProof.Rows SX
local macro_rules | `(tactic| walk_at "bq") => `(tactic| first | exact BQ.mono (by assumption) (by decide) | exact BQ.mono (BQ.sub (by assumption) (by assumption)) (by decide) | exact BQ.mono (BQ.add (by assumption) (by assumption)) (by decide) | exact BQ.mono (BQ.mul (by assumption) (by assumption)) (by decide))
def sp_L_begin : DSp := fun ds M k _ => ∃ (v : D) (xs : List Int), ds = [v] ∧ M = [] ∧ WkAt v (xs.map D.int) ∧ xs.length ≤ 1000 ∧ ∀ s l M', IsA s l 0 M' → k (.raw s) M'
theorem mo_L_begin : MonoD sp_L_begin := fun _ _ _ _ _ _ hk _ ⟨v, xs, e, e2, h1, h2, q⟩ => ⟨v, xs, e, e2, h1, h2, fun s l M' h => hk _ _ (q s l M' h)⟩
def sp_L_take : DSp := fun ds M k _ => ∃ (s l : Addr) (n : Nat) (sz : Int), ds = [.raw s, .int sz] ∧ IsA s l n M ∧ n + 1 ≤ 1000000000 ∧ 0 < sz ∧ B 120 sz ∧ ∀ (r : Int) M', 0 ≤ r → r < sz → IsA s l (n + 1) M' → k (.int r) M'
theorem mo_L_take : MonoD sp_L_take := fun _ _ _ _ _ _ hk _ ⟨s, l, n, sz, e, e2, h1, h2, h3, q⟩ => ⟨s, l, n, sz, e, e2, h1, h2, h3, fun r M' a b c => hk _ _ (q r M' a b c)⟩
/-- what is picked from -/
inductive PkAt : D → List D → Prop
  | lst {xs} : PkAt (.lst xs) xs
  | tup {xs} : PkAt (.tup xs) xs
  | str {z : Str} : PkAt (.str z) (z.cps.toList.map fun c => D.str ⟨#[c]⟩)
def sp_L_pick : DSp := fun ds M k _ => ∃ (s l : Addr) (n : Nat) (v : D) (xs : List D), ds = [.raw s, v] ∧ IsA s l n M ∧ n + 1 ≤ 1000000000 ∧ PkAt v xs ∧ xs ≠ [] ∧ xs.length ≤ 1000000 ∧ ∀ x M', x ∈ xs → IsA s l (n + 1) M' → k x M'
theorem mo_L_pick : MonoD sp_L_pick := fun _ _ _ _ _ _ hk _ ⟨s, l, n, v, xs, e, e2, h1, h2, h3, h4, q⟩ => ⟨s, l, n, v, xs, e, e2, h1, h2, h3, h4, fun r M' a b => hk _ _ (q r M' a b)⟩
local macro_rules | `(tactic| walk_at "go") => `(tactic| repeat (first
  | ((with_reducible refine idE ?_); first
    | ((with_reducible apply XE.var); · exact rfl)
    | (with_reducible first
      | refine XE.op ?_
      | refine XE.int ?_
      | refine XE.str ?_
      | refine XE.ite ?_
      | refine XE.cb ?_
      | refine XE.tup ?_
      | refine XE.bl ?_
      | refine XE.non ?_
      | refine XE.ty ?_
      | refine XE.un ?_
      | refine XE.andV ?_
      | refine XE.orV ?_
      | refine XE.notV ?_
      | refine XE.slice ?_
      | refine XE.chain ?_))
  | ((with_reducible refine idE ?_); (with_reducible refine XE.callP ?_ (fun _ => rfl) (dD := []) (fun _ => .nil) ?_); (focus (first | with_reducible exact mo_R | walk_at "mo")))
  | ((with_reducible refine idE ?_); (with_reducible refine XE.methP ?_ (fun _ => rfl) (dD := []) (fun _ => .nil) ?_); (focus (first | with_reducible exact mo_R | walk_at "mo")))
  | ((with_reducible refine idE ?_); (with_reducible refine XE.callT mo_R (fun _ => rfl) (dD := []) (fun _ => .nil) ?_))
  | ((with_reducible refine idE ?_); (with_reducible refine XE.callNP ?_ (fun _ => rfl) ?_); (focus (first | with_reducible exact mo_R | walk_at "mo")))
  | ((with_reducible refine idE ?_); (with_reducible refine XE.callNTP mo_R (fun _ => rfl) ?_))
  | ((with_reducible refine idA ?_); with_reducible first
      | refine XA.nil ?_
      | refine XA.cons ?_)
  | ((with_reducible refine idR ?_); first
      | (with_reducible first
        | refine XR.add_int ?_
        | refine XR.eq_int ?_
        | refine XR.ne_int ?_
        | refine XR.i0 ?_
        | refine XR.subB ?_
        | refine XR.ne_dQ ?_
        | refine XR.eq_dQ ?_
        | refine XR.b0 ?_
        | refine XR.isN ?_
        | refine XR.ntN ?_)
      | refine XR.ix_tup rfl ?_
      | refine XR.ix_lst (by first | exact LsAt.lst | exact LsAt.raw At.hd) rfl ?_)
  | ((with_reducible refine idS ?_); with_reducible first
      | refine XS.seq ?_
      | refine XS.asg ?_
      | refine XS.ret ?_
      | refine XS.ifs ?_
      | refine XS.next ?_
      | refine XS.drop ?_
      | refine XS.par ?_
      | refine XS.par3 ?_)
  | ((with_reducible refine idT ?_); with_reducible first
      | refine XT.tst ?_
      | refine XT.bool ?_
      | refine XT.and ?_
      | refine XT.or ?_
      | refine XT.not ?_)
  | ((with_reducible refine idT ?_); refine XT.yes ?_)
  | ((with_reducible refine idS ?_); refine XS.aug rfl ?_)
  | with_reducible refine ex1 ?_
  | refine pickF rfl ?_
  | refine pickT rfl ?_
  | ((with_reducible refine idO ?_); with_reducible first
      | refine XO.none ?_
      | refine XO.some ?_)
  | ((with_reducible refine idGs ?_); with_reducible first
      | refine XGs.nil ?_
      | refine XGs.cons ?_)
  | ((with_reducible refine idG ?_); with_reducible first
      | refine XG.name (by simp) ?_
      | refine XG.tup rfl ?_)
  | with_reducible refine XC.abs ?_
  | with_reducible refine XU.neg ?_
  | refine ⟨_, _, rfl, ?_⟩
  | refine ⟨_, _, _, rfl, ?_⟩
  | refine ⟨_, rfl, ?_⟩
  | refine ⟨show (_ : Nat) + 1 ≤ 16000000 by simp only [List.length_cons, List.length_nil] <;> decide, ?_⟩
  | refine ⟨show (0 : Nat) ≤ 16000000 by decide, ?_⟩
  | refine ⟨rfl, rfl, rfl, _, (by walk_at "use"), ?_⟩
  | refine ⟨rfl, rfl, rfl, (by walk_at "tab"), _, (by walk_at "use"), ?_⟩
  | refine ⟨rfl, (by walk_at "tab"), _, (by walk_at "use"), ?_⟩
  | refine ⟨_, .ins, rfl, ?_⟩
  | ((refine ⟨rfl, ?_⟩); (with_reducible refine u_is_lessA ?_ ?_ ?_); (focus walk_at "bq"); (focus walk_at "bq"))
  | ((refine ⟨rfl, ?_⟩); (with_reducible refine u_sum_ofA ?_ ?_ ?_); (focus walk_at "bq"); (focus walk_at "bq"))
  | ((refine ⟨rfl, ?_⟩); (with_reducible refine u_rest_ofA ?_ ?_ ?_); (focus walk_at "bq"); (focus walk_at "bq"))
  | ((refine ⟨rfl, ?_⟩); (with_reducible refine u_product_ofA ?_ ?_ ?_); (focus walk_at "bq"); (focus walk_at "bq"))
  | refine ⟨rfl, _, (by walk_at "use"), ?_⟩
  | dsimp only [List.set_cons_zero, List.set_cons_succ]))
local macro_rules | `(tactic| walk_at "sp") => `(tactic| first | refine ⟨[], _, rfl, rfl, ?_⟩ | refine ⟨rfl, ?_⟩)
local macro_rules | `(tactic| walk_at "tab") => `(tactic| first | exact .hd | exact .tl .hd | exact .tl (.tl .hd) | exact .tl (.tl (.tl .hd)))
local macro_rules | `(tactic| walk_at "sp1") => `(tactic| first | refine ⟨[_], _, rfl, rfl, ?_⟩ | refine ⟨rfl, ?_⟩)
local macro_rules | `(tactic| walk_at "sp2") => `(tactic| first | refine ⟨[_, _], _, rfl, rfl, ?_⟩ | refine ⟨rfl, ?_⟩)

local macro_rules | `(tactic| walk_at "mo") => `(tactic| first | exact mo_L_take | exact mo_L_pick)
local macro_rules | `(tactic| walk_at "callD") => `(tactic| (refine XE.call (by walk_at "mo") (fun _ => rfl) (dD := []) (fun _ => .nil) ?_))
theorem lenB {n : Nat} (h : n ≤ 1000000) : B 120 (n : Int) := by
  show (n : Int).natAbs < 2 ^ 120
  rw [Int.natAbs_natCast]
  exact Nat.lt_of_le_of_lt h (by decide)
theorem fmod_pos {a p : Int} (ha : 0 ≤ a) (hp : 0 < p) : 0 ≤ a.fmod p ∧ a.fmod p < p := by
  rw [Int.fmod_eq_emod_of_nonneg _ (by omega)]
  exact ⟨Int.emod_nonneg _ (by omega), Int.emod_lt_of_pos _ hp⟩
theorem fdiv_pos {a p : Int} (ha : 0 ≤ a) (hp : 0 < p) : 0 ≤ a.fdiv p := by
  rw [Int.fdiv_eq_ediv_of_nonneg _ (by omega)]
  exact Int.ediv_nonneg ha (by omega)
section
variable {P : Program} {w : World} {K : PySem.W.Frag} {mg : Str → Option Value} {base : Heap}
theorem ok_L_begin (T : Txt K mg) : FnOk P w K mg base (L2.CX P w) 1 T.L_begin.a T.L_begin.fd ["script"] (spD K 1 (sp_L_begin)) := by
  refine fn_okD T.L_begin.F sc_L_begin rfl fun cdv A outer s H E hr => ?_
  have nd := sc_L_begin.nd
  have hu64 := hr.units
  have hu65 := hu65_of hr
  have hu1 := hu_of hr
  refine ⟨_, (pss_cons (ps_setLc (i := 1) (own := [("item", 2)]) (g := gName 2) (by rfl) nd rfl rfl (sw_true rfl rfl rfl (by decide +kernel)) (pi_K (K := K) rfl (pv 0)) (blkOk_by (N := N_L_begin) (sc := defScope s_L_begin) (by decide +kernel)) (fun _ _ _ _ _ => (pg_name (i := 2) nd rfl (by first | exact Or.inl rfl | exact Or.inr rfl))) (fun _ _ _ _ _ => pts_nil) (fun _ _ _ _ _ => (pe_callB cr_abs (by rfl) T.m_abs boot_abs (pa_cons (pv 2) pa_nil))))
      (pss_one (ps_ret (pe_disp (pps_cons pe_str (pe_lc (own := [("item", 2)]) (g := gName 2) (by rfl) nd (pi_K (K := K) rfl (pv 1)) (blkOk_by (N := N_L_begin) (sc := defScope s_L_begin) (by decide +kernel)) (fun _ _ _ _ _ => (pg_name (i := 2) nd rfl (by first | exact Or.inl rfl | exact Or.inr rfl))) (fun _ _ _ _ _ => (pts_one (pt_cmpR op_ge (pv 2) (pe_op op_pow pe_int pe_int) (nomark _)))) (fun _ _ _ _ _ => (pv 2))) (pps_cons pe_str (pv 1) (pps_cons pe_str pe_int (pps_cons pe_str pe_int pps_nil)))) (by rfl) (by rfl) (fun z => by cases z) (by decide))))), fun ds M kk xx hl h => ?_⟩
  try dsimp only [cxOf]
  obtain ⟨v, xs, rfl, rfl, hv, hl, hk⟩ := h
  refine XS.seq (XS.asg (XE.lcMap D.int (fun z : Int => D.int (z.natAbs : Int)) (fun a b h => by injection h) (XI.U ?_)))
  walk_at "go"
  refine ⟨_, hv, xs, rfl, by omega, fun z hz => ?_, ?_⟩
  · walk_at "go"
    exact ⟨rfl, rfl⟩
  have e : (xs.map fun z : Int => D.int (z.natAbs : Int)) = (xs.map fun z : Int => (z.natAbs : Int)).map D.int := (map_map' _ _ _).symm
  rw [e]
  have hpos : ∀ x ∈ xs.map fun z : Int => (z.natAbs : Int), 0 ≤ x := fun x hx => by
    obtain ⟨z, _, rfl⟩ := List.mem_map.mp hx
    omega
  have hlen : (xs.map fun z : Int => (z.natAbs : Int)).length ≤ 1000 := by rw [List.length_map]; exact hl
  generalize (xs.map fun z : Int => (z.natAbs : Int)) = cs at hpos hlen ⊢
  walk_at "go"
  refine XE.disp fun s hs => ?_
  refine XPr.cons ?_
  walk_at "go"
  refine XE.lcG true (XI.U ?_)
  walk_at "go"
  refine ⟨_, .lst, fun i acc M => (∃ L : List Int, acc = L.map D.int ∧ L.length ≤ i ∧ ∀ x ∈ L, 0 ≤ x) ∧ M = [(s, .dct [])], ⟨⟨[], rfl, Nat.le_refl _, by simp⟩, rfl⟩, ?_, ?_⟩
  · rintro i x acc M hx ⟨⟨L, rfl, hL, hp⟩, rfl⟩
    obtain ⟨z, hz, rfl⟩ := map_get hx
    have hi : i < cs.length := (List.getElem?_eq_some_iff.mp hz).1
    walk_at "go"
    refine XR.i ⟨by decide, by decide, by decide⟩ ?_
    walk_at "go"
    refine ⟨fun hb => ?_, fun hb => ?_⟩
    · walk_at "go"
      refine ⟨by rw [List.length_map]; omega, ⟨L ++ [z], by simp only [List.map_append, List.map_cons, List.map_nil], by simp; omega, fun y hy => ?_⟩, rfl⟩
      rcases List.mem_append.mp hy with hy | hy
      · exact hp y hy
      · rw [List.mem_singleton.mp hy]
        exact hpos z (List.mem_of_getElem? hz)
    · exact ⟨⟨L, rfl, by omega, hp⟩, rfl⟩
  rintro acc M ⟨⟨L, rfl, hL, hp⟩, rfl⟩
  rw [if_pos rfl]
  intro l hl0
  walk_at "go"
  refine XPr.cons ?_
  walk_at "go"
  refine XPr.cons ?_
  walk_at "go"
  refine XPr.cons ?_
  walk_at "go"
  refine XPr.nil ?_
  refine ⟨stA l cs 0 0, _, rfl, by show 4 ≤ 15; decide, .tl .hd, ?_⟩
  rw [merge_A]
  exact hk s l _ ⟨L, cs, 0, 0, rfl, ⟨hp, hpos, by omega, by omega, by omega, hlen⟩⟩
theorem ok_L_take (T : Txt K mg) : FnOk P w K mg base (L2.CX P w) 1 T.L_take.a T.L_take.fd ["draw", "size"] (spD K 2 (sp_L_take)) := by
  refine fn_okD T.L_take.F sc_L_take rfl fun cdv A outer s H E hr => ?_
  have nd := sc_L_take.nd
  have hu64 := hr.units
  have hu65 := hu65_of hr
  have hu1 := hu_of hr
  refine ⟨_, (pss_cons (ps_if (PW.pt (pw_and (pt_cmpR (op_eqK (K := K) rfl hu64) (pe_dget hu1 (pv 0) pe_str (fun _ _ => rfl)) pe_int (nomark _)) (pw_and1 (pt_cmpR (op_neK (K := K) rfl hu64) (pe_dget hu1 (pv 0) pe_str (fun _ _ => rfl)) (pe_lst pa_nil) (nomark _)))))
      (pss_one (ps_dput hu1 (pv 0) pe_str (pe_bmK (K := K) rfl PySem.F.plainAttrs_list PySem.F.slot_list_pop PySem.F.type_list_pop mt_popAt (pe_dget hu1 (pv 0) pe_str (fun _ _ => rfl)) (pa_cons pe_int pa_nil)) rfl))
      pss_nil)
      (pss_cons (ps_if (pt_cmpR op_gt (pe_dget hu1 (pv 0) pe_str (fun _ _ => rfl)) pe_int (nomark _))
      (pss_cons (ps_set (i := 2) nd rfl (by first | exact Or.inl rfl | exact Or.inr rfl) (pe_op op_modN (pe_dget hu1 (pv 0) pe_str (fun _ _ => rfl)) (pv 1)))
      (pss_cons (ps_dput hu1 (pv 0) pe_str (pe_op op_fdivZ (pe_dget hu1 (pv 0) pe_str (fun _ _ => rfl)) (pv 1)) rfl)
      (pss_one (ps_ret (pv 2)))))
      pss_nil)
      (pss_cons (ps_set (i := 3) nd rfl (by first | exact Or.inl rfl | exact Or.inr rfl) (pe_op (op_addK (K := K) rfl) (pe_dget hu1 (pv 0) pe_str (fun _ _ => rfl)) pe_int))
      (pss_cons (ps_dput hu1 (pv 0) pe_str (pv 3) rfl)
      (pss_cons (ps_set (i := 4) nd rfl (by first | exact Or.inl rfl | exact Or.inr rfl) pe_int)
      (pss_cons (ps_if (pt_cmpR (op_neK (K := K) rfl hu64) (pe_dget hu1 (pv 0) pe_str (fun _ _ => rfl)) (pe_lst pa_nil) (nomark _))
      (pss_one (ps_set (i := 4) nd rfl (by first | exact Or.inl rfl | exact Or.inr rfl) (pe_ix (ix_K (K := K) rfl) (pe_dget hu1 (pv 0) pe_str (fun _ _ => rfl)) (pe_op op_modN (pv 3) (pe_callB (cr_lenK (K := K) rfl) (by rfl) T.m_len PySem.boot_len (pa_cons (pe_dget hu1 (pv 0) pe_str (fun _ _ => rfl)) pa_nil))) (fun _ _ => rfl))))
      pss_nil)
      (pss_cons (ps_set (i := 5) nd rfl (by first | exact Or.inl rfl | exact Or.inr rfl) (pe_op op_modN (pe_op op_pow (pe_op (op_addK (K := K) rfl) (pe_op (op_addK (K := K) rfl) (pe_op op_modN (pv 4) pe_int) (pe_op op_mulW pe_int (pv 3))) pe_int) pe_int) pe_int))
      (pss_one (ps_ret (pe_op op_modN (pe_op op_fdivZ (pe_op op_modN (pe_op op_pow (pe_op (op_addK (K := K) rfl) (pv 5) (pe_op op_mulW pe_int (pv 3))) pe_int) pe_int) pe_int) (pv 1))))))))))), fun ds M kk xx hl h => ?_⟩
  try dsimp only [cxOf]
  obtain ⟨s, l, n, sz, rfl, ⟨L, cs, r, t, rfl, hO⟩, hn, hz, hz2, hk⟩ := h
  have hO1 : StOkA L cs r t (n + 1) := ⟨hO.large, hO.items, hO.left, ⟨hO.turn.1, by have := hO.turn.2; omega⟩, hn, hO.len⟩
  have ht := hO.turn
  refine XS.cut (fun ds M => (∃ a b c d, ds = [some (.raw s), some (.int sz), a, b, c, d]) ∧ ∃ L r, M = stMA s l L cs r t ∧ StOkA L cs r t n) (XS.ifs ?_) ?_
  rotate_left
  · rintro _ _ ⟨⟨a, b, c, d, rfl⟩, L, r, rfl, hO⟩
    walk_at "go"
    refine XE.dget ?_
    walk_at "go"
    refine ⟨_, kS "left", _, .raw (.tl .hd), rfl, vaA_left .., ?_⟩
    walk_at "go"
    refine ⟨fun hb => ?_, fun hb => ?_⟩
    · walk_at "go"
      refine XE.dget ?_
      walk_at "go"
      refine ⟨_, kS "left", _, .raw (.tl .hd), rfl, vaA_left .., ?_⟩
      walk_at "go"
      refine XR.i (by omega) ?_
      walk_at "go"
      refine XS.dput (XE.op (XE.dget ?_))
      walk_at "go"
      refine ⟨_, kS "left", _, .raw (.tl .hd), rfl, vaA_left .., ?_⟩
      walk_at "go"
      refine XR.i (B.divOk (n := 120) hz2 (by omega) (by decide) (by decide)) ?_
      walk_at "go"
      refine ⟨s, _, kS "left", _, rfl, rfl, .tl .hd, by show 4 < 16000000; decide, ?_⟩
      rw [puA_left]
      walk_at "go"
      have h1 := fmod_pos (a := r) hO.left hz
      exact hk _ _ h1.1 h1.2 ⟨L, cs, _, t, rfl, ⟨hO.large, hO.items, fdiv_pos hO.left hz, hO1.turn, hO1.bud, hO.len⟩⟩
    walk_at "go"
    refine XE.dget ?_
    walk_at "go"
    refine ⟨_, kS "turn", _, .raw (.tl .hd), rfl, vaA_turn .., ?_⟩
    walk_at "go"
    refine XS.dput ?_
    walk_at "go"
    refine ⟨s, _, kS "turn", _, rfl, rfl, .tl .hd, by show 4 < 16000000; decide, ?_⟩
    rw [puA_turn]
    refine XS.seq ?_
    refine XS.asg ?_
    refine XE.int ?_
    dsimp only
    refine XS.cut (fun ds M => (∃ a it c, ds = [some (.raw s), some (.int sz), a, some (.int (t + 1)), some (.int it), c] ∧ 0 ≤ it) ∧ M = stMA s l L cs r (t + 1)) (XS.ifs ?_) ?_
    · walk_at "go"
      refine XE.dget ?_
      walk_at "go"
      refine ⟨_, kS "items", _, .raw (.tl .hd), rfl, vaA_items .., ?_⟩
      refine XE.lstF ?_
      walk_at "go"
      refine XR.ne_nil (n := 1) .self (okD_map (n := 0) (fun _ => rfl) cs) (by decide) .self ?_
      walk_at "go"
      refine ⟨fun hc => ?_, fun hc => ?_⟩
      · have hc : cs ≠ [] := by simpa using hc
        have hp := List.length_pos_iff.mpr hc
        walk_at "go"
        refine XE.dget ?_
        walk_at "go"
        refine ⟨_, kS "items", _, .raw (.tl .hd), rfl, vaA_items .., ?_⟩
        walk_at "go"
        refine XE.dget ?_
        walk_at "go"
        refine ⟨_, kS "items", _, .raw (.tl .hd), rfl, vaA_items .., ?_⟩
        walk_at "go"
        refine XC.len .lst ?_
        rw [List.length_map]
        walk_at "go"
        refine XR.i (by omega) ?_
        have h1 := fmod_pos (a := t + 1) (p := cs.length) (by omega) (by omega)
        obtain ⟨z, hz9⟩ : ∃ z, cs[((t + 1).fmod cs.length).toNat]? = some z := ⟨_, List.getElem?_eq_getElem (by omega)⟩
        refine XR.ix_lst .lst (at_nat (j := ((t + 1).fmod cs.length).toNat) (by omega) (get_map hz9)) ?_
        walk_at "go"
        exact ⟨⟨_, _, _, rfl, hO.items z (List.mem_of_getElem? hz9)⟩, rfl⟩
      · walk_at "go"
        exact ⟨⟨_, _, _, rfl, by omega⟩, rfl⟩
    rintro _ _ ⟨⟨a, it, c, rfl, hit⟩, rfl⟩
    have hbud := hO.bud
    have h1 := fmod_pos (a := it) (p := 2147483629) hit (by decide)
    walk_at "go"
    refine XR.i (by decide) ?_
    walk_at "go"
    refine XR.i (wide_mul (a := 64) (b := 64) (by decide) (by show _ < 2 ^ 64; omega) (by decide) (by decide) (by decide)) ?_
    walk_at "go"
    refine XR.i ⟨by decide, by decide, by show _ < 2 ^ 64; omega⟩ ?_
    walk_at "go"
    refine XR.i (by decide) ?_
    have h2 := fmod_pos (a := (it.fmod 2147483629 + 69621 * (t + 1) + 12345) ^ (Int.toNat 3)) (p := 2147483647) (Int.pow_nonneg (by omega)) (by decide)
    walk_at "go"
    refine XR.i (wide_mul (a := 64) (b := 64) (by decide) (by show _ < 2 ^ 64; omega) (by decide) (by decide) (by decide)) ?_
    walk_at "go"
    refine XR.i ⟨by decide, by decide, by show _ < 2 ^ 64; omega⟩ ?_
    walk_at "go"
    refine XR.i (by decide) ?_
    have h3 := fmod_pos (a := (((it.fmod 2147483629 + 69621 * (t + 1) + 12345) ^ (Int.toNat 3)).fmod 2147483647 + 104729 * (t + 1)) ^ (Int.toNat 5)) (p := 2147483587) (Int.pow_nonneg (by omega)) (by decide)
    walk_at "go"
    refine XR.i ⟨by decide, by decide⟩ ?_
    walk_at "go"
    refine XR.i (by omega) ?_
    walk_at "go"
    have h4 := fdiv_pos (p := 13) h3.1 (by decide)
    have h5 := fmod_pos h4 hz
    exact hk _ _ h5.1 h5.2 ⟨L, cs, r, t + 1, rfl, ⟨hO.large, hO.items, hO.left, ⟨by omega, by omega⟩, hn, hO.len⟩⟩
  walk_at "go"
  refine XE.dget ?_
  walk_at "go"
  refine ⟨_, kS "left", _, .raw (.tl .hd), rfl, vaA_left .., ?_⟩
  walk_at "go"
  refine ⟨fun hb => ?_, fun hb => ?_⟩
  · walk_at "go"
    refine XE.dget ?_
    walk_at "go"
    refine ⟨_, kS "large", _, .raw (.tl .hd), rfl, vaA_large .., ?_⟩
    refine XE.lstF ?_
    walk_at "go"
    refine XR.ne_nil (n := 1) (.raw .hd) (okD_map (n := 0) (fun _ => rfl) L) (by decide) .self ?_
    walk_at "go"
    refine ⟨fun hc => ?_, fun hc => ?_⟩
    · have hc : L ≠ [] := by simpa using hc
      obtain ⟨a, L', rfl⟩ : ∃ a L', L = a :: L' := List.exists_cons_of_ne_nil hc
      refine XS.dput (XE.bm (XE.dget ?_))
      walk_at "go"
      refine ⟨_, kS "large", _, .raw (.tl .hd), rfl, vaA_large .., ?_⟩
      refine ⟨ty_lst (.raw .hd), ?_⟩
      walk_at "go"
      refine XM.popAt (y := .int a) (j := 0) .hd (by decide) (by decide) (by simp [seqIndex?]) rfl ?_
      walk_at "go"
      refine ⟨s, _, kS "left", _, rfl, rfl, .tl .hd, by show 4 < 16000000; decide, ?_⟩
      rw [puA_left]
      exact ⟨⟨_, _, _, _, rfl⟩, L', a, rfl, ⟨fun x hx => hO.large x (List.mem_cons_of_mem _ hx), hO.items, hO.large a (List.mem_cons_self ..), hO.turn, hO.bud, hO.len⟩⟩
    · walk_at "go"
      exact ⟨⟨_, _, _, _, rfl⟩, L, r, rfl, hO⟩
  · walk_at "go"
    exact ⟨⟨_, _, _, _, rfl⟩, L, r, rfl, hO⟩
theorem ok_L_pick (T : Txt K mg) : FnOk P w K mg base (L2.CX P w) 2 T.L_pick.a T.L_pick.fd ["draw", "some"] (spD K 2 (sp_L_pick)) := by
  refine fn_okD T.L_pick.F sc_L_pick rfl fun cdv A outer s H E hr => ?_
  have nd := sc_L_pick.nd
  have hu64 := hr.units
  have hu65 := hu65_of hr
  have hu1 := hu_of hr
  refine ⟨_, (pss_one (ps_ret (pe_ix (ix_K (K := K) rfl) (pv 1) (pe_call (ok_L_take T) (hr.mono (by decide)) rfl T.L_take.g T.L_take.F.kp (b_L_take T) .nil px0 (pa_cons (pv 0) (pa_cons (pe_callB (cr_lenK (K := K) rfl) (by rfl) T.m_len PySem.boot_len (pa_cons (pv 1) pa_nil)) pa_nil))) (fun _ _ => rfl)))), fun ds M kk xx hl h => ?_⟩
  try dsimp only [cxOf]
  obtain ⟨s, l, n, v, xs, rfl, hS, hn, hv, hne, hxl, hk⟩ := h
  have hp := List.length_pos_iff.mpr hne
  walk_at "go"
  walk_at "callD"
  walk_at "go"
  cases hv with
  | lst =>
    refine XC.len .lst ?_
    walk_at "go"
    refine ⟨[], _, rfl, rfl, s, l, n, _, rfl, hS, hn, by omega, lenB hxl, fun r M' h0 h1 hS' => ?_⟩
    obtain ⟨x, hx⟩ : ∃ x, xs[r.toNat]? = some x := ⟨_, List.getElem?_eq_getElem (show r.toNat < xs.length by omega)⟩
    exact XR.ix_lst .lst (at_nat (j := r.toNat) (by omega) hx) (hk x _ (List.mem_of_getElem? hx) hS')
  | tup =>
    refine XC.len .tup ?_
    walk_at "go"
    refine ⟨[], _, rfl, rfl, s, l, n, _, rfl, hS, hn, by omega, lenB hxl, fun r M' h0 h1 hS' => ?_⟩
    obtain ⟨x, hx⟩ : ∃ x, xs[r.toNat]? = some x := ⟨_, List.getElem?_eq_getElem (show r.toNat < xs.length by omega)⟩
    exact XR.ix_tup (at_nat (j := r.toNat) (by omega) hx) (hk x _ (List.mem_of_getElem? hx) hS')
  | @str z =>
    rw [List.length_map] at hxl hp
    have hzl : z.length ≤ 16000000 := by
      show z.cps.size ≤ _
      rw [← Array.length_toList]
      omega
    refine XC.len_str hzl ?_
    walk_at "go"
    have ez : z.length = z.cps.toList.length := (Array.length_toList ..).symm
    refine ⟨[], _, rfl, rfl, s, l, n, _, rfl, hS, hn, by omega, (by rw [ez]; exact lenB hxl), fun r M' h0 h1 hS' => ?_⟩
    obtain ⟨c, hc⟩ : ∃ c, z.cps.toList[r.toNat]? = some c := ⟨_, List.getElem?_eq_getElem (show r.toNat < z.cps.toList.length by omega)⟩
    refine XR.ix_str (c := c) hzl (at_nat (j := r.toNat) (by omega) hc) (hk _ _ (List.mem_map.mpr ⟨c, List.mem_of_getElem? hc, rfl⟩) hS')
end
end My

namespace My
open PySem L2 DL PyProof.Rows SX
local macro_rules | `(tactic| walk_at "bq") => `(tactic| first | exact BQ.mono (by assumption) (by decide) | exact BQ.mono (BQ.sub (by assumption) (by assumption)) (by decide) | exact BQ.mono (BQ.add (by assumption) (by assumption)) (by decide) | exact BQ.mono (BQ.mul (by assumption) (by assumption)) (by decide))
def R_L_f (ds : List D) (r : D) : Prop := ∃ (n d : Int), ds = [.int n, .int d] ∧ d ≠ 0 ∧ B 8000 d ∧ r = dQ (Rat.divInt n d)
theorem u_L_f {n d : Int} (h0 : d ≠ 0) (hb : B 8000 d) : R_L_f [.int n, .int d] (dQ (Rat.divInt n d)) := ⟨n, d, rfl, h0, hb, rfl⟩
def R_L_sum (ds : List D) (r : D) : Prop := ∃ (p q : Rat), ds = [dQ p, dQ q] ∧ BW 20000 4000 p ∧ BW 20000 4000 q ∧ r = dQ (p + q)
def R_L_rest (ds : List D) (r : D) : Prop := ∃ (p q : Rat), ds = [dQ p, dQ q] ∧ BW 20000 4000 p ∧ BW 20000 4000 q ∧ r = dQ (p - q)
def R_L_product (ds : List D) (r : D) : Prop := ∃ (p q : Rat), ds = [dQ p, dQ q] ∧ BW 20000 4000 p ∧ BW 20000 4000 q ∧ r = dQ (p * q)
def R_L_less (ds : List D) (r : D) : Prop := ∃ (p q : Rat), ds = [dQ p, dQ q] ∧ BW 20000 4000 p ∧ BW 20000 4000 q ∧ r = .bl (decide (p < q))
theorem u_L_sum {p q : Rat} (h1 : BQ 4000 p) (h2 : BQ 4000 q) : R_L_sum [dQ p, dQ q] (dQ (p + q)) := ⟨p, q, rfl, h1.w.mono (by decide) (by decide), h2.w.mono (by decide) (by decide), rfl⟩
theorem u_L_rest {p q : Rat} (h1 : BQ 4000 p) (h2 : BQ 4000 q) : R_L_rest [dQ p, dQ q] (dQ (p - q)) := ⟨p, q, rfl, h1.w.mono (by decide) (by decide), h2.w.mono (by decide) (by decide), rfl⟩
theorem u_L_product {p q : Rat} (h1 : BQ 4000 p) (h2 : BQ 4000 q) : R_L_product [dQ p, dQ q] (dQ (p * q)) := ⟨p, q, rfl, h1.w.mono (by decide) (by decide), h2.w.mono (by decide) (by decide), rfl⟩
theorem u_L_sumW {p q : Rat} (h1 : BW 20000 4000 p) (h2 : BW 20000 4000 q) : R_L_sum [dQ p, dQ q] (dQ (p + q)) := ⟨p, q, rfl, h1, h2, rfl⟩
theorem u_L_restW {p q : Rat} (h1 : BW 20000 4000 p) (h2 : BW 20000 4000 q) : R_L_rest [dQ p, dQ q] (dQ (p - q)) := ⟨p, q, rfl, h1, h2, rfl⟩
theorem u_L_productW {p q : Rat} (h1 : BW 20000 4000 p) (h2 : BW 20000 4000 q) : R_L_product [dQ p, dQ q] (dQ (p * q)) := ⟨p, q, rfl, h1, h2, rfl⟩
theorem u_L_lessW {p q : Rat} (h1 : BW 20000 4000 p) (h2 : BW 20000 4000 q) : R_L_less [dQ p, dQ q] (.bl (decide (p < q))) := ⟨p, q, rfl, h1, h2, rfl⟩
theorem u_L_less {p q : Rat} (h1 : BQ 4000 p) (h2 : BQ 4000 q) : R_L_less [dQ p, dQ q] (.bl (decide (p < q))) := ⟨p, q, rfl, h1.w.mono (by decide) (by decide), h2.w.mono (by decide) (by decide), rfl⟩
local macro_rules | `(tactic| walk_at "go") => `(tactic| repeat (first
  | ((with_reducible refine idE ?_); first
    | ((with_reducible apply XE.var); · exact rfl)
    | (with_reducible first
      | refine XE.op ?_
      | refine XE.int ?_
      | refine XE.str ?_
      | refine XE.ite ?_
      | refine XE.cb ?_
      | refine XE.tup ?_
      | refine XE.bl ?_
      | refine XE.non ?_
      | refine XE.ty ?_
      | refine XE.un ?_
      | refine XE.andV ?_
      | refine XE.orV ?_
      | refine XE.notV ?_
      | refine XE.slice ?_
      | refine XE.chain ?_))
  | ((with_reducible refine idE ?_); (with_reducible refine XE.callP ?_ (fun _ => rfl) (dD := []) (fun _ => .nil) ?_); (focus (first | with_reducible exact mo_R | walk_at "mo")))
  | ((with_reducible refine idE ?_); (with_reducible refine XE.methP ?_ (fun _ => rfl) (dD := []) (fun _ => .nil) ?_); (focus (first | with_reducible exact mo_R | walk_at "mo")))
  | ((with_reducible refine idE ?_); (with_reducible refine XE.callT mo_R (fun _ => rfl) (dD := []) (fun _ => .nil) ?_))
  | ((with_reducible refine idE ?_); (with_reducible refine XE.callNP ?_ (fun _ => rfl) ?_); (focus (first | with_reducible exact mo_R | walk_at "mo")))
  | ((with_reducible refine idE ?_); (with_reducible refine XE.callNTP mo_R (fun _ => rfl) ?_))
  | ((with_reducible refine idA ?_); with_reducible first
      | refine XA.nil ?_
      | refine XA.cons ?_)
  | ((with_reducible refine idR ?_); first
      | (with_reducible first
        | refine XR.add_int ?_
        | refine XR.eq_int ?_
        | refine XR.ne_int ?_
        | refine XR.i0 ?_
        | refine XR.subB ?_
        | refine XR.ne_dQ ?_
        | refine XR.eq_dQ ?_
        | refine XR.b0 ?_
        | refine XR.isN ?_
        | refine XR.ntN ?_)
      | refine XR.ix_tup rfl ?_
      | refine XR.ix_lst (by first | exact LsAt.lst | exact LsAt.raw At.hd) rfl ?_)
  | ((with_reducible refine idS ?_); with_reducible first
      | refine XS.seq ?_
      | refine XS.asg ?_
      | refine XS.ret ?_
      | refine XS.ifs ?_
      | refine XS.next ?_
      | refine XS.drop ?_
      | refine XS.par ?_
      | refine XS.par3 ?_)
  | ((with_reducible refine idT ?_); with_reducible first
      | refine XT.tst ?_
      | refine XT.bool ?_
      | refine XT.and ?_
      | refine XT.or ?_
      | refine XT.not ?_)
  | ((with_reducible refine idT ?_); refine XT.yes ?_)
  | ((with_reducible refine idS ?_); refine XS.aug rfl ?_)
  | with_reducible refine ex1 ?_
  | refine pickF rfl ?_
  | refine pickT rfl ?_
  | ((with_reducible refine idO ?_); with_reducible first
      | refine XO.none ?_
      | refine XO.some ?_)
  | ((with_reducible refine idGs ?_); with_reducible first
      | refine XGs.nil ?_
      | refine XGs.cons ?_)
  | ((with_reducible refine idG ?_); with_reducible first
      | refine XG.name (by simp) ?_
      | refine XG.tup rfl ?_)
  | with_reducible refine XC.abs ?_
  | with_reducible refine XU.neg ?_
  | refine ⟨_, _, rfl, ?_⟩
  | refine ⟨_, _, _, rfl, ?_⟩
  | refine ⟨_, rfl, ?_⟩
  | refine ⟨show (_ : Nat) + 1 ≤ 16000000 by simp only [List.length_cons, List.length_nil] <;> decide, ?_⟩
  | refine ⟨show (0 : Nat) ≤ 16000000 by decide, ?_⟩
  | refine ⟨rfl, rfl, rfl, _, (by walk_at "use"), ?_⟩
  | refine ⟨rfl, rfl, rfl, (by walk_at "tab"), _, (by walk_at "use"), ?_⟩
  | refine ⟨rfl, (by walk_at "tab"), _, (by walk_at "use"), ?_⟩
  | refine ⟨_, .ins, rfl, ?_⟩
  | ((refine ⟨rfl, ?_⟩); (with_reducible refine u_is_lessA ?_ ?_ ?_); (focus walk_at "bq"); (focus walk_at "bq"))
  | ((refine ⟨rfl, ?_⟩); (with_reducible refine u_sum_ofA ?_ ?_ ?_); (focus walk_at "bq"); (focus walk_at "bq"))
  | ((refine ⟨rfl, ?_⟩); (with_reducible refine u_rest_ofA ?_ ?_ ?_); (focus walk_at "bq"); (focus walk_at "bq"))
  | ((refine ⟨rfl, ?_⟩); (with_reducible refine u_product_ofA ?_ ?_ ?_); (focus walk_at "bq"); (focus walk_at "bq"))
  | refine ⟨rfl, _, (by walk_at "use"), ?_⟩
  | dsimp only [List.set_cons_zero, List.set_cons_succ]))
local macro_rules | `(tactic| walk_at "sp") => `(tactic| first | refine ⟨[], _, rfl, rfl, ?_⟩ | refine ⟨rfl, ?_⟩)
local macro_rules | `(tactic| walk_at "tab") => `(tactic| first | exact .hd | exact .tl .hd | exact .tl (.tl .hd) | exact .tl (.tl (.tl .hd)))
local macro_rules | `(tactic| walk_at "sp1") => `(tactic| first | refine ⟨[_], _, rfl, rfl, ?_⟩ | refine ⟨rfl, ?_⟩)
local macro_rules | `(tactic| walk_at "sp2") => `(tactic| first | refine ⟨[_, _], _, rfl, rfl, ?_⟩ | refine ⟨rfl, ?_⟩)

local macro_rules | `(tactic| walk_at "mo") => `(tactic| first | exact mo_R)
local macro_rules | `(tactic| walk_at "use") => `(tactic| (try dsimp only [List.cons_append, List.nil_append, List.append_nil]); first | ((with_reducible apply u_L_sum) <;> first | assumption | walk_at "bq") | exact u_L_sum (by walk_at "bq") (by walk_at "bq"))
theorem zero_sub_fdiv (n g : Int) (hg : 0 < g) (hd : (g : Int) ∣ n) : 0 - n.fdiv g = (-n).fdiv g := by
  obtain ⟨k, rfl⟩ := hd
  rw [← Int.mul_neg, Int.mul_fdiv_cancel_left _ (by omega), Int.mul_fdiv_cancel_left _ (by omega)]
  omega
section
variable {P : Program} {w : World} {K : PySem.W.Frag} {mg : Str → Option Value} {base : Heap}
theorem ok_L_f (T : Txt K mg) : FnOk P w K mg base (L2.CX P w) 1 T.L_f.a T.L_f.fd ["n", "d"] (spD K 2 (pur ((spR R_L_f)))) := by
  refine fn_okP T.L_f.F sc_L_f rfl fun cdv A outer s H E hr => ?_
  have nd := sc_L_f.nd
  have hu64 := hr.units
  have hu65 := hu65_of hr
  have hu1 := hu_of hr
  refine ⟨_, (pss_cons (ps_par (i := 2) (j := 3) rfl nd rfl rfl (by decide) rfl rfl (pa_cons (pe_callB cr_abs (by rfl) T.m_abs boot_abs (pa_cons (pv 0) pa_nil)) (pa_cons (pe_callB cr_abs (by rfl) T.m_abs boot_abs (pa_cons (pv 1) pa_nil)) pa_nil)) (by rfl))
      (pss_cons (ps_while (passes_of rfl) (pt_cmpR (op_neK (K := K) rfl hu64) (pv 3) pe_int (nomark _)) (pss_one (ps_par (i := 2) (j := 3) rfl nd rfl rfl (by decide) rfl rfl (pa_cons (pv 3) (pa_cons (pe_op op_modN (pv 2) (pv 3)) pa_nil)) (by rfl))))
      (pss_one (ps_ret (pe_ifExp (pt_cmpR op_gt (pv 1) pe_int (nomark _)) (pe_tup (pa_cons (pe_op op_fdivZ (pv 0) (pv 2)) (pa_cons (pe_op op_fdivZ (pv 1) (pv 2)) pa_nil))) (pe_tup (pa_cons (pe_op op_sub pe_int (pe_op op_fdivZ (pv 0) (pv 2))) (pa_cons (pe_op op_sub pe_int (pe_op op_fdivZ (pv 1) (pv 2))) pa_nil)))))))), fun ds kk xx hl h => ?_⟩
  try dsimp only [cxOf]
  obtain ⟨_, ⟨n, d, rfl, h0, hb, rfl⟩, hk⟩ := h
  have hg0 := Int.gcd_pos_of_ne_zero_right n h0
  walk_at "go"
  refine XS.while (fun m ds M => ∃ x y : Nat, ds = [some (.int n), some (.int d), some (.int x), some (.int y)] ∧ Nat.gcd x y = Int.gcd n d ∧ m = y ∧ M = []) d.natAbs ⟨_, _, rfl, rfl, rfl, rfl⟩ ?_
  rintro m _ M ⟨x, y, rfl, hg, rfl, rfl⟩
  walk_at "go"
  refine ⟨fun hb => ?_, fun hc => ?_⟩
  · have hy : m ≠ 0 := by simpa using hb
    walk_at "go"
    refine XR.i (by simpa using hy) ?_
    walk_at "go"
    refine ⟨x % m, Nat.mod_lt _ (by omega), m, x % m, ?_, ?_, rfl, rfl⟩
    · rw [Int.fmod_eq_emod_of_nonneg _ (by omega)]
      rfl
    · rw [Nat.gcd_comm, ← hg, Nat.gcd_comm x m]
      exact (Nat.gcd_rec m x).symm
  · have hy : m = 0 := by simpa using hc
    subst hy
    rw [Nat.gcd_zero_right] at hg
    subst hg
    have hgB : B 8000 (Int.gcd n d : Int) := hb.le (by rw [Int.natAbs_natCast]; exact Nat.le_of_dvd (by omega) (Int.gcd_dvd_natAbs_right n d))
    walk_at "go"
    refine ⟨fun hp => ?_, fun hp => ?_⟩
    · have hp := of_decide_eq_true hp
      walk_at "go"
      refine XR.i (hgB.divOk (by omega) (by decide) (by decide)) ?_
      walk_at "go"
      refine XR.i (hgB.divOk (by omega) (by decide) (by decide)) ?_
      walk_at "go"
      rw [new_pos hp] at hk
      exact hk
    · have hp : d < 0 := by have := of_decide_eq_false hp; omega
      walk_at "go"
      refine XR.i (hgB.divOk (by omega) (by decide) (by decide)) ?_
      walk_at "go"
      refine XR.i (hgB.divOk (by omega) (by decide) (by decide)) ?_
      walk_at "go"
      have e : Rat.divInt n d = Rat.divInt (-n) (-d) := (Rat.neg_divInt_neg n d).symm
      rw [e, new_pos (by omega), Int.gcd_neg, Int.neg_gcd] at hk
      rw [zero_sub_fdiv n _ (by omega) (Int.gcd_dvd_left ..), zero_sub_fdiv d _ (by omega) (Int.gcd_dvd_right ..)]
      exact hk
theorem ok_L_sum (T : Txt K mg) : FnOk P w K mg base (L2.CX P w) 2 T.L_sum.a T.L_sum.fd ["a", "b"] (spD K 2 (pur ((spR R_L_sum)))) := by
  refine fn_okP T.L_sum.F sc_L_sum rfl fun cdv A outer s H E hr => ?_
  have nd := sc_L_sum.nd
  have hu64 := hr.units
  have hu65 := hu65_of hr
  have hu1 := hu_of hr
  refine ⟨_, (pss_one (ps_ret (pe_call (ok_L_f T) (hr.mono (by decide)) rfl T.L_f.g T.L_f.F.kp (b_L_f T) .nil px0 (pa_cons (pe_op (op_addK (K := K) rfl) (pe_op op_mulW (pe_ix (ix_K (K := K) rfl) (pv 0) pe_int (fun _ _ => rfl)) (pe_ix (ix_K (K := K) rfl) (pv 1) pe_int (fun _ _ => rfl))) (pe_op op_mulW (pe_ix (ix_K (K := K) rfl) (pv 1) pe_int (fun _ _ => rfl)) (pe_ix (ix_K (K := K) rfl) (pv 0) pe_int (fun _ _ => rfl)))) (pa_cons (pe_op op_mulW (pe_ix (ix_K (K := K) rfl) (pv 0) pe_int (fun _ _ => rfl)) (pe_ix (ix_K (K := K) rfl) (pv 1) pe_int (fun _ _ => rfl))) pa_nil))))), fun ds kk xx hl h => ?_⟩
  try dsimp only [cxOf]
  obtain ⟨_, ⟨p, q, rfl, h1, h2, rfl⟩, hk⟩ := h
  walk_at "go"
  refine XR.i (h1.num.mulOk h2.den (by decide) (by decide) (by omega)) ?_
  walk_at "go"
  refine XR.i (h2.num.mulOk h1.den (by decide) (by decide) (by omega)) ?_
  walk_at "go"
  refine XR.i (h1.den.mulOk h2.den (by decide) (by decide) (by omega)) ?_
  walk_at "go"
  refine ⟨rfl, _, u_L_f (Int.mul_ne_zero (den_ne p) (den_ne q)) (h1.den.mul h2.den), ?_⟩
  rw [← add_divInt] at hk
  exact hk
theorem ok_L_rest (T : Txt K mg) : FnOk P w K mg base (L2.CX P w) 2 T.L_rest.a T.L_rest.fd ["a", "b"] (spD K 2 (pur ((spR R_L_rest)))) := by
  refine fn_okP T.L_rest.F sc_L_rest rfl fun cdv A outer s H E hr => ?_
  have nd := sc_L_rest.nd
  have hu64 := hr.units
  have hu65 := hu65_of hr
  have hu1 := hu_of hr
  refine ⟨_, (pss_one (ps_ret (pe_call (ok_L_f T) (hr.mono (by decide)) rfl T.L_f.g T.L_f.F.kp (b_L_f T) .nil px0 (pa_cons (pe_op op_sub (pe_op op_mulW (pe_ix (ix_K (K := K) rfl) (pv 0) pe_int (fun _ _ => rfl)) (pe_ix (ix_K (K := K) rfl) (pv 1) pe_int (fun _ _ => rfl))) (pe_op op_mulW (pe_ix (ix_K (K := K) rfl) (pv 1) pe_int (fun _ _ => rfl)) (pe_ix (ix_K (K := K) rfl) (pv 0) pe_int (fun _ _ => rfl)))) (pa_cons (pe_op op_mulW (pe_ix (ix_K (K := K) rfl) (pv 0) pe_int (fun _ _ => rfl)) (pe_ix (ix_K (K := K) rfl) (pv 1) pe_int (fun _ _ => rfl))) pa_nil))))), fun ds kk xx hl h => ?_⟩
  try dsimp only [cxOf]
  obtain ⟨_, ⟨p, q, rfl, h1, h2, rfl⟩, hk⟩ := h
  walk_at "go"
  refine XR.i (h1.num.mulOk h2.den (by decide) (by decide) (by omega)) ?_
  walk_at "go"
  refine XR.i (h2.num.mulOk h1.den (by decide) (by decide) (by omega)) ?_
  walk_at "go"
  refine XR.i (h1.den.mulOk h2.den (by decide) (by decide) (by omega)) ?_
  walk_at "go"
  refine ⟨rfl, _, u_L_f (Int.mul_ne_zero (den_ne p) (den_ne q)) (h1.den.mul h2.den), ?_⟩
  rw [← sub_divInt] at hk
  exact hk
theorem ok_L_product (T : Txt K mg) : FnOk P w K mg base (L2.CX P w) 2 T.L_product.a T.L_product.fd ["a", "b"] (spD K 2 (pur ((spR R_L_product)))) := by
  refine fn_okP T.L_product.F sc_L_product rfl fun cdv A outer s H E hr => ?_
  have nd := sc_L_product.nd
  have hu64 := hr.units
  have hu65 := hu65_of hr
  have hu1 := hu_of hr
  refine ⟨_, (pss_one (ps_ret (pe_call (ok_L_f T) (hr.mono (by decide)) rfl T.L_f.g T.L_f.F.kp (b_L_f T) .nil px0 (pa_cons (pe_op op_mulW (pe_ix (ix_K (K := K) rfl) (pv 0) pe_int (fun _ _ => rfl)) (pe_ix (ix_K (K := K) rfl) (pv 1) pe_int (fun _ _ => rfl))) (pa_cons (pe_op op_mulW (pe_ix (ix_K (K := K) rfl) (pv 0) pe_int (fun _ _ => rfl)) (pe_ix (ix_K (K := K) rfl) (pv 1) pe_int (fun _ _ => rfl))) pa_nil))))), fun ds kk xx hl h => ?_⟩
  try dsimp only [cxOf]
  obtain ⟨_, ⟨p, q, rfl, h1, h2, rfl⟩, hk⟩ := h
  walk_at "go"
  refine XR.i (h1.num.mulOk h2.num (by decide) (by decide) (by omega)) ?_
  walk_at "go"
  refine XR.i (h1.den.mulOk h2.den (by decide) (by decide) (by omega)) ?_
  walk_at "go"
  refine ⟨rfl, _, u_L_f (Int.mul_ne_zero (den_ne p) (den_ne q)) (h1.den.mul h2.den), ?_⟩
  rw [← mul_divInt] at hk
  exact hk
theorem ok_L_less (T : Txt K mg) : FnOk P w K mg base (L2.CX P w) 1 T.L_less.a T.L_less.fd ["a", "b"] (spD K 2 (pur ((spR R_L_less)))) := by
  refine fn_okP T.L_less.F sc_L_less rfl fun cdv A outer s H E hr => ?_
  have nd := sc_L_less.nd
  have hu64 := hr.units
  have hu65 := hu65_of hr
  have hu1 := hu_of hr
  refine ⟨_, (pss_one (ps_ret (pe_cmpR op_lt (pe_op op_mulW (pe_ix (ix_K (K := K) rfl) (pv 0) pe_int (fun _ _ => rfl)) (pe_ix (ix_K (K := K) rfl) (pv 1) pe_int (fun _ _ => rfl))) (pe_op op_mulW (pe_ix (ix_K (K := K) rfl) (pv 1) pe_int (fun _ _ => rfl)) (pe_ix (ix_K (K := K) rfl) (pv 0) pe_int (fun _ _ => rfl))) (nomark _)))), fun ds kk xx hl h => ?_⟩
  try dsimp only [cxOf]
  obtain ⟨_, ⟨p, q, rfl, h1, h2, rfl⟩, hk⟩ := h
  walk_at "go"
  refine XR.i (h1.num.mulOk h2.den (by decide) (by decide) (by omega)) ?_
  walk_at "go"
  refine XR.i (h2.num.mulOk h1.den (by decide) (by decide) (by omega)) ?_
  walk_at "go"
  rw [← den_lt] at hk
  exact hk
end
end My

namespace My
open PySem L2 DL PyProof.Rows SX
local macro_rules | `(tactic| walk_at "bq") => `(tactic| first | exact BQ.mono (by assumption) (by decide) | exact BQ.mono (BQ.sub (by assumption) (by assumption)) (by decide) | exact BQ.mono (BQ.add (by assumption) (by assumption)) (by decide) | exact BQ.mono (BQ.mul (by assumption) (by assumption)) (by decide))
def sp_L_number : DSp := fun ds M k _ => ∃ (s l : Addr) (n : Nat), ds = [.raw s] ∧ IsA s l n M ∧ n + 10 ≤ 1000000000 ∧ ∀ (r : Int) M', B 70 r → IsA s l (n + 10) M' → k (.int r) M'
theorem mo_L_number : MonoD sp_L_number := fun _ _ _ _ _ _ hk _ ⟨s, l, n, e, e2, h1, q⟩ => ⟨s, l, n, e, e2, h1, fun r M' a b => hk _ _ (q r M' a b)⟩
def sp_L_part : DSp := fun ds M k _ => ∃ (s l : Addr) (n : Nat), ds = [.raw s] ∧ IsA s l n M ∧ n + 20 ≤ 1000000000 ∧ ∀ (r : Rat) M', BQ 80 r → IsA s l (n + 20) M' → k (dQ r) M'
theorem mo_L_part : MonoD sp_L_part := fun _ _ _ _ _ _ hk _ ⟨s, l, n, e, e2, h1, q⟩ => ⟨s, l, n, e, e2, h1, fun r M' a b => hk _ _ (q r M' a b)⟩
def sp_L_step : DSp := fun ds M k _ => ∃ (s l : Addr) (n : Nat), ds = [.raw s] ∧ IsA s l n M ∧ n + 20 ≤ 1000000000 ∧ ∀ (r : Rat) M', BQ 80 r → 0 < r → IsA s l (n + 20) M' → k (dQ r) M'
theorem mo_L_step : MonoD sp_L_step := fun _ _ _ _ _ _ hk _ ⟨s, l, n, e, e2, h1, q⟩ => ⟨s, l, n, e, e2, h1, fun r M' a b c => hk _ _ (q r M' a b c)⟩
local macro_rules | `(tactic| walk_at "go") => `(tactic| repeat (first
  | ((with_reducible refine idE ?_); first
    | ((with_reducible apply XE.var); · exact rfl)
    | (with_reducible first
      | refine XE.op ?_
      | refine XE.int ?_
      | refine XE.str ?_
      | refine XE.ite ?_
      | refine XE.cb ?_
      | refine XE.tup ?_
      | refine XE.bl ?_
      | refine XE.non ?_
      | refine XE.ty ?_
      | refine XE.un ?_
      | refine XE.andV ?_
      | refine XE.orV ?_
      | refine XE.notV ?_
      | refine XE.slice ?_
      | refine XE.chain ?_))
  | ((with_reducible refine idE ?_); (with_reducible refine XE.callP ?_ (fun _ => rfl) (dD := []) (fun _ => .nil) ?_); (focus (first | with_reducible exact mo_R | walk_at "mo")))
  | ((with_reducible refine idE ?_); (with_reducible refine XE.methP ?_ (fun _ => rfl) (dD := []) (fun _ => .nil) ?_); (focus (first | with_reducible exact mo_R | walk_at "mo")))
  | ((with_reducible refine idE ?_); (with_reducible refine XE.callT mo_R (fun _ => rfl) (dD := []) (fun _ => .nil) ?_))
  | ((with_reducible refine idE ?_); (with_reducible refine XE.callNP ?_ (fun _ => rfl) ?_); (focus (first | with_reducible exact mo_R | walk_at "mo")))
  | ((with_reducible refine idE ?_); (with_reducible refine XE.callNTP mo_R (fun _ => rfl) ?_))
  | ((with_reducible refine idA ?_); with_reducible first
      | refine XA.nil ?_
      | refine XA.cons ?_)
  | ((with_reducible refine idR ?_); first
      | (with_reducible first
        | refine XR.add_int ?_
        | refine XR.eq_int ?_
        | refine XR.ne_int ?_
        | refine XR.i0 ?_
        | refine XR.subB ?_
        | refine XR.ne_dQ ?_
        | refine XR.eq_dQ ?_
        | refine XR.b0 ?_
        | refine XR.isN ?_
        | refine XR.ntN ?_)
      | refine XR.ix_tup rfl ?_
      | refine XR.ix_lst (by first | exact LsAt.lst | exact LsAt.raw At.hd) rfl ?_)
  | ((with_reducible refine idS ?_); with_reducible first
      | refine XS.seq ?_
      | refine XS.asg ?_
      | refine XS.ret ?_
      | refine XS.ifs ?_
      | refine XS.next ?_
      | refine XS.drop ?_
      | refine XS.par ?_
      | refine XS.par3 ?_)
  | ((with_reducible refine idT ?_); with_reducible first
      | refine XT.tst ?_
      | refine XT.bool ?_
      | refine XT.and ?_
      | refine XT.or ?_
      | refine XT.not ?_)
  | ((with_reducible refine idT ?_); refine XT.yes ?_)
  | ((with_reducible refine idS ?_); refine XS.aug rfl ?_)
  | with_reducible refine ex1 ?_
  | refine pickF rfl ?_
  | refine pickT rfl ?_
  | ((with_reducible refine idO ?_); with_reducible first
      | refine XO.none ?_
      | refine XO.some ?_)
  | ((with_reducible refine idGs ?_); with_reducible first
      | refine XGs.nil ?_
      | refine XGs.cons ?_)
  | ((with_reducible refine idG ?_); with_reducible first
      | refine XG.name (by simp) ?_
      | refine XG.tup rfl ?_)
  | with_reducible refine XC.abs ?_
  | with_reducible refine XU.neg ?_
  | refine ⟨_, _, rfl, ?_⟩
  | refine ⟨_, _, _, rfl, ?_⟩
  | refine ⟨_, rfl, ?_⟩
  | refine ⟨show (_ : Nat) + 1 ≤ 16000000 by simp only [List.length_cons, List.length_nil] <;> decide, ?_⟩
  | refine ⟨show (0 : Nat) ≤ 16000000 by decide, ?_⟩
  | refine ⟨rfl, rfl, rfl, _, (by walk_at "use"), ?_⟩
  | refine ⟨rfl, rfl, rfl, (by walk_at "tab"), _, (by walk_at "use"), ?_⟩
  | refine ⟨rfl, (by walk_at "tab"), _, (by walk_at "use"), ?_⟩
  | refine ⟨_, .ins, rfl, ?_⟩
  | ((refine ⟨rfl, ?_⟩); (with_reducible refine u_is_lessA ?_ ?_ ?_); (focus walk_at "bq"); (focus walk_at "bq"))
  | ((refine ⟨rfl, ?_⟩); (with_reducible refine u_sum_ofA ?_ ?_ ?_); (focus walk_at "bq"); (focus walk_at "bq"))
  | ((refine ⟨rfl, ?_⟩); (with_reducible refine u_rest_ofA ?_ ?_ ?_); (focus walk_at "bq"); (focus walk_at "bq"))
  | ((refine ⟨rfl, ?_⟩); (with_reducible refine u_product_ofA ?_ ?_ ?_); (focus walk_at "bq"); (focus walk_at "bq"))
  | refine ⟨rfl, _, (by walk_at "use"), ?_⟩
  | dsimp only [List.set_cons_zero, List.set_cons_succ]))
local macro_rules | `(tactic| walk_at "sp") => `(tactic| first | refine ⟨[], _, rfl, rfl, ?_⟩ | refine ⟨rfl, ?_⟩)
local macro_rules | `(tactic| walk_at "tab") => `(tactic| first | exact .hd | exact .tl .hd | exact .tl (.tl .hd) | exact .tl (.tl (.tl .hd)))
local macro_rules | `(tactic| walk_at "sp1") => `(tactic| first | refine ⟨[_], _, rfl, rfl, ?_⟩ | refine ⟨rfl, ?_⟩)
local macro_rules | `(tactic| walk_at "sp2") => `(tactic| first | refine ⟨[_, _], _, rfl, rfl, ?_⟩ | refine ⟨rfl, ?_⟩)

local macro_rules | `(tactic| walk_at "mo") => `(tactic| first | exact mo_L_take | exact mo_L_pick | exact mo_L_number | exact mo_L_part | exact mo_L_step)
local macro_rules | `(tactic| walk_at "callD") => `(tactic| (refine XE.call (by walk_at "mo") (fun _ => rfl) (dD := []) (fun _ => .nil) ?_))
theorem pick_den {x : D} (h : x ∈ [D.int 1, D.int 1, D.int 1, D.int 2, D.int 3, D.int 4, D.int 7, D.int 60, D.int (10 ^ 9 + 9)]) : ∃ d : Int, x = .int d ∧ 0 < d ∧ d ≤ 1000000009 := by
  simp only [List.mem_cons, List.not_mem_nil, or_false] at h
  rcases h with h | h | h | h | h | h | h | h | h <;> exact ⟨_, h, by decide, by decide⟩
section
variable {P : Program} {w : World} {K : PySem.W.Frag} {mg : Str → Option Value} {base : Heap}
theorem ok_L_number (T : Txt K mg) : FnOk P w K mg base (L2.CX P w) 3 T.L_number.a T.L_number.fd ["draw"] (spD K 1 (sp_L_number)) := by
  refine fn_okD T.L_number.F sc_L_number rfl fun cdv A outer s H E hr => ?_
  have nd := sc_L_number.nd
  have hu64 := hr.units
  have hu65 := hu65_of hr
  have hu1 := hu_of hr
  refine ⟨_, (pss_cons (ps_set (i := 1) nd rfl (by first | exact Or.inl rfl | exact Or.inr rfl) (pe_call (ok_L_take T) (hr.mono (by decide)) rfl T.L_take.g T.L_take.F.kp (b_L_take T) .nil px0 (pa_cons (pv 0) (pa_cons pe_int pa_nil))))
      (pss_cons (ps_if (pt_cmpR op_lt (pv 1) pe_int (nomark _))
      (pss_one (ps_ret (pe_op op_sub (pe_call (ok_L_take T) (hr.mono (by decide)) rfl T.L_take.g T.L_take.F.kp (b_L_take T) .nil px0 (pa_cons (pv 0) (pa_cons pe_int pa_nil))) pe_int)))
      pss_nil)
      (pss_cons (ps_if (pt_cmpR (op_eqK (K := K) rfl hu64) (pv 1) pe_int (nomark _))
      (pss_one (ps_ret (pe_op op_sub (pe_call (ok_L_take T) (hr.mono (by decide)) rfl T.L_take.g T.L_take.F.kp (b_L_take T) .nil px0 (pa_cons (pv 0) (pa_cons pe_int pa_nil))) pe_int)))
      pss_nil)
      (pss_cons (ps_set (i := 2) nd rfl (by first | exact Or.inl rfl | exact Or.inr rfl) (pe_op (op_addK (K := K) rfl) (pe_op (op_addK (K := K) rfl) (pe_op op_mulW (pe_call (ok_L_take T) (hr.mono (by decide)) rfl T.L_take.g T.L_take.F.kp (b_L_take T) .nil px0 (pa_cons (pv 0) (pa_cons (pe_op op_pow pe_int pe_int) pa_nil))) (pe_op op_pow pe_int pe_int)) (pe_op op_mulW (pe_call (ok_L_take T) (hr.mono (by decide)) rfl T.L_take.g T.L_take.F.kp (b_L_take T) .nil px0 (pa_cons (pv 0) (pa_cons (pe_op op_pow pe_int pe_int) pa_nil))) pe_int)) (pe_call (ok_L_take T) (hr.mono (by decide)) rfl T.L_take.g T.L_take.F.kp (b_L_take T) .nil px0 (pa_cons (pv 0) (pa_cons pe_int pa_nil)))))
      (pss_one (ps_ret (pe_call (ok_L_pick T) (hr.mono (by decide)) rfl T.L_pick.g T.L_pick.F.kp (b_L_pick T) .nil px0 (pa_cons (pv 0) (pa_cons (pe_lst (pa_cons (pv 2) (pa_cons (pe_op op_sub pe_int (pv 2)) pa_nil))) pa_nil))))))))), fun ds M kk xx hl h => ?_⟩
  try dsimp only [cxOf]
  obtain ⟨s, l, n, rfl, hS, hn, hk⟩ := h
  walk_at "go"
  walk_at "callD"
  walk_at "go"
  walk_at "sp"
  refine ⟨s, l, _, _, rfl, hS, by omega, by decide, (by show Int.natAbs _ < 2 ^ 120; decide), fun r M1 r0 r1 hS => ?_⟩
  walk_at "go"
  refine ⟨fun hb => ?_, fun hb => ?_⟩
  · walk_at "go"
    walk_at "callD"
    walk_at "go"
    walk_at "sp"
    refine ⟨s, l, _, _, rfl, hS, by omega, by decide, (by show Int.natAbs _ < 2 ^ 120; decide), fun q M1 q0 q1 hS => ?_⟩
    walk_at "go"
    exact hk _ _ (show Int.natAbs _ < 2 ^ 70 by omega) (hS.more (by omega) (by omega))
  walk_at "go"
  refine ⟨fun hc => ?_, fun hc => ?_⟩
  · walk_at "go"
    walk_at "callD"
    walk_at "go"
    walk_at "sp"
    refine ⟨s, l, _, _, rfl, hS, by omega, by decide, (by show Int.natAbs _ < 2 ^ 120; decide), fun q M1 q0 q1 hS => ?_⟩
    walk_at "go"
    exact hk _ _ (show Int.natAbs _ < 2 ^ 70 by omega) (hS.more (by omega) (by omega))
  walk_at "go"
  walk_at "callD"
  walk_at "go"
  refine XR.i ⟨by decide, by decide, by decide⟩ ?_
  walk_at "go"
  walk_at "sp"
  refine ⟨s, l, _, _, rfl, hS, by omega, by decide, (by show Int.natAbs _ < 2 ^ 120; decide), fun q M1 q0 q1 hS => ?_⟩
  walk_at "go"
  refine XR.i ⟨by decide, by decide, by decide⟩ ?_
  walk_at "go"
  have e8 : (10 : Int) ^ Int.toNat 8 = 100000000 := rfl
  have e11 : (10 : Int) ^ Int.toNat 11 = 100000000000 := rfl
  rw [e8] at q1
  rw [e11]
  refine XR.i (wide_mul (a := 64) (b := 64) (by show _ < 2 ^ 64; omega) (by decide) (by decide) (by decide) (by decide)) ?_
  walk_at "go"
  walk_at "callD"
  walk_at "go"
  refine XR.i ⟨by decide, by decide, by decide⟩ ?_
  walk_at "go"
  walk_at "sp"
  refine ⟨s, l, _, _, rfl, hS, by omega, by decide, (by show Int.natAbs _ < 2 ^ 120; decide), fun u M1 u0 u1 hS => ?_⟩
  rw [e8] at u1
  walk_at "go"
  refine XR.i (wide_mul (a := 64) (b := 64) (by show _ < 2 ^ 64; omega) (by decide) (by decide) (by decide) (by decide)) ?_
  walk_at "go"
  walk_at "callD"
  walk_at "go"
  walk_at "sp"
  refine ⟨s, l, _, _, rfl, hS, by omega, by decide, (by show Int.natAbs _ < 2 ^ 120; decide), fun v M1 v0 v1 hS => ?_⟩
  walk_at "go"
  walk_at "callD"
  walk_at "go"
  refine XE.lstF ?_
  walk_at "go"
  walk_at "sp"
  refine ⟨s, l, _, _, _, rfl, hS, by omega, .lst, by simp, by simp, fun x M1 hx hS => ?_⟩
  simp only [List.mem_cons, List.not_mem_nil, or_false] at hx
  rcases hx with rfl | rfl
  · exact hk _ _ (show Int.natAbs _ < 2 ^ 70 by omega) (hS.more (by omega) (by omega))
  · exact hk _ _ (show Int.natAbs _ < 2 ^ 70 by omega) (hS.more (by omega) (by omega))
theorem ok_L_part (T : Txt K mg) : FnOk P w K mg base (L2.CX P w) 4 T.L_part.a T.L_part.fd ["draw"] (spD K 1 (sp_L_part)) := by
  refine fn_okD T.L_part.F sc_L_part rfl fun cdv A outer s H E hr => ?_
  have nd := sc_L_part.nd
  have hu64 := hr.units
  have hu65 := hu65_of hr
  have hu1 := hu_of hr
  refine ⟨_, (pss_cons (ps_par (i := 1) (j := 2) rfl nd rfl rfl (by decide) rfl rfl (pa_cons (pe_call (ok_L_number T) (hr.mono (by decide)) rfl T.L_number.g T.L_number.F.kp (b_L_number T) .nil px0 (pa_cons (pv 0) pa_nil)) (pa_cons (pe_call (ok_L_pick T) (hr.mono (by decide)) rfl T.L_pick.g T.L_pick.F.kp (b_L_pick T) .nil px0 (pa_cons (pv 0) (pa_cons (pe_lst (pa_cons pe_int (pa_cons pe_int (pa_cons pe_int (pa_cons pe_int (pa_cons pe_int (pa_cons pe_int (pa_cons pe_int (pa_cons pe_int (pa_cons (pe_op (op_addK (K := K) rfl) (pe_op op_pow pe_int pe_int) pe_int) pa_nil)))))))))) pa_nil))) pa_nil)) (by rfl))
      (pss_one (ps_ret (pe_call (ok_L_f T) (hr.mono (by decide)) rfl T.L_f.g T.L_f.F.kp (b_L_f T) .nil px0 (pa_cons (pv 1) (pa_cons (pv 2) pa_nil)))))), fun ds M kk xx hl h => ?_⟩
  try dsimp only [cxOf]
  obtain ⟨s, l, n, rfl, hS, hn, hk⟩ := h
  walk_at "go"
  walk_at "callD"
  walk_at "go"
  walk_at "sp"
  refine ⟨s, l, n, rfl, hS, by omega, fun r M1 rB hS => ?_⟩
  walk_at "go"
  walk_at "callD"
  walk_at "go"
  refine XE.lstF ?_
  walk_at "go"
  refine XR.i ⟨by decide, by decide, by decide⟩ ?_
  walk_at "go"
  walk_at "sp"
  refine ⟨s, l, _, _, _, rfl, hS, by omega, .lst, by simp, by simp, fun x M1 hx hS => ?_⟩
  obtain ⟨d, rfl, hd0, hd1⟩ := pick_den hx
  walk_at "go"
  have dB : B 80 d := show d.natAbs < 2 ^ 80 by omega
  refine ⟨rfl, _, u_L_f (by omega) (dB.mono (by decide)), ?_⟩
  exact hk _ _ (BQ.divInt (rB.mono (by decide)) dB (by omega)) (hS.more (by omega) (by omega))
theorem ok_L_step (T : Txt K mg) : FnOk P w K mg base (L2.CX P w) 4 T.L_step.a T.L_step.fd ["draw"] (spD K 1 (sp_L_step)) := by
  refine fn_okD T.L_step.F sc_L_step rfl fun cdv A outer s H E hr => ?_
  have nd := sc_L_step.nd
  have hu64 := hr.units
  have hu65 := hu65_of hr
  have hu1 := hu_of hr
  refine ⟨_, (pss_cons (ps_par (i := 1) (j := 2) rfl nd rfl rfl (by decide) rfl rfl (pa_cons (pe_op (op_addK (K := K) rfl) pe_int (pe_callB cr_abs (by rfl) T.m_abs boot_abs (pa_cons (pe_call (ok_L_number T) (hr.mono (by decide)) rfl T.L_number.g T.L_number.F.kp (b_L_number T) .nil px0 (pa_cons (pv 0) pa_nil)) pa_nil))) (pa_cons (pe_call (ok_L_pick T) (hr.mono (by decide)) rfl T.L_pick.g T.L_pick.F.kp (b_L_pick T) .nil px0 (pa_cons (pv 0) (pa_cons (pe_lst (pa_cons pe_int (pa_cons pe_int (pa_cons pe_int (pa_cons pe_int (pa_cons pe_int (pa_cons pe_int (pa_cons pe_int (pa_cons pe_int (pa_cons (pe_op (op_addK (K := K) rfl) (pe_op op_pow pe_int pe_int) pe_int) pa_nil)))))))))) pa_nil))) pa_nil)) (by rfl))
      (pss_one (ps_ret (pe_call (ok_L_f T) (hr.mono (by decide)) rfl T.L_f.g T.L_f.F.kp (b_L_f T) .nil px0 (pa_cons (pv 1) (pa_cons (pv 2) pa_nil)))))), fun ds M kk xx hl h => ?_⟩
  try dsimp only [cxOf]
  obtain ⟨s, l, n, rfl, hS, hn, hk⟩ := h
  walk_at "go"
  walk_at "callD"
  walk_at "go"
  walk_at "sp"
  refine ⟨s, l, n, rfl, hS, by omega, fun r M1 rB hS => ?_⟩
  walk_at "go"
  walk_at "callD"
  walk_at "go"
  refine XE.lstF ?_
  walk_at "go"
  refine XR.i ⟨by decide, by decide, by decide⟩ ?_
  walk_at "go"
  walk_at "sp"
  refine ⟨s, l, _, _, _, rfl, hS, by omega, .lst, by simp, by simp, fun x M1 hx hS => ?_⟩
  obtain ⟨d, rfl, hd0, hd1⟩ := pick_den hx
  walk_at "go"
  have dB : B 80 d := show d.natAbs < 2 ^ 80 by omega
  refine ⟨rfl, _, u_L_f (by omega) (dB.mono (by decide)), ?_⟩
  have nB : B 80 (1 + (r.natAbs : Int)) := ((B.one (n := 70) (by decide)).add rB.nat).mono (by decide)
  refine hk _ _ (BQ.divInt nB dB (by omega)) ?_ (hS.more (by omega) (by omega))
  rw [Rat.divInt_eq_div]
  have h1 : (0 : Rat) < ((1 + (r.natAbs : Int) : Int) : Rat) := by
    have : ((0 : Int) : Rat) < ((1 + (r.natAbs : Int) : Int) : Rat) := Rat.intCast_lt_intCast.mpr (by omega)
    exact this
  have h2 := cast_pos (l := d) (by omega)
  refine Rat.not_le.mp fun z => ?_
  have := (le_div (a := 0) (b := ((1 + (r.natAbs : Int) : Int) : Rat)) h2).mpr (by rw [Rat.zero_mul]; exact Rat.le_of_lt h1)
  have e0 : ((1 + (r.natAbs : Int) : Int) : Rat) / (d : Rat) = 0 := by grind
  have e1 : ((1 + (r.natAbs : Int) : Int) : Rat) / (d : Rat) * (d : Rat) = ((1 + (r.natAbs : Int) : Int) : Rat) := div_mul_self (by grind)
  rw [e0, Rat.zero_mul] at e1
  grind
end
end My

namespace My
open PySem L2 DL PyProof.Rows SX
local macro_rules | `(tactic| walk_at "bq") => `(tactic| first | exact BQ.mono (by assumption) (by decide) | exact BQ.mono (BQ.sub (by assumption) (by assumption)) (by decide) | exact BQ.mono (BQ.add (by assumption) (by assumption)) (by decide) | exact BQ.mono (BQ.mul (by assumption) (by assumption)) (by decide))
def sp_L_names : DSp := fun ds M k _ => ∃ (s l : Addr) (n many : Nat), ds = [.raw s, .int many] ∧ IsA s l n M ∧ n + 20 ≤ 1000000000 ∧ many ≤ 12 ∧ ∀ (ns : List Str) M', ns.length = many → ns.Nodup → (∀ x ∈ ns, NameOk x) → IsA s l (n + 20) M' → k (.lst (ns.map D.str)) M'
theorem mo_L_names : MonoD sp_L_names := fun _ _ _ _ _ _ hk _ ⟨s, l, n, m, e, e2, h1, h2, q⟩ => ⟨s, l, n, m, e, e2, h1, h2, fun r M' a b c d => hk _ _ (q r M' a b c d)⟩
def sp_L_lot : DSp := fun ds M k _ => ∃ (s l : Addr) (n many size : Nat), ds = [.raw s, .int many, .int size] ∧ IsA s l n M ∧ n + 20 ≤ 1000000000 ∧ many ≤ size ∧ size ≤ 12 ∧ ∀ (xs : List Int) M', xs.length = many → xs.Nodup → (∀ x ∈ xs, 0 ≤ x ∧ x < size) → IsA s l (n + 20) M' → k (.lst (xs.map D.int)) M'
theorem mo_L_lot : MonoD sp_L_lot := fun _ _ _ _ _ _ hk _ ⟨s, l, n, m, z, e, e2, h1, h2, h3, q⟩ => ⟨s, l, n, m, z, e, e2, h1, h2, h3, fun r M' a b c d => hk _ _ (q r M' a b c d)⟩
local macro_rules | `(tactic| walk_at "go") => `(tactic| repeat (first
  | ((with_reducible refine idE ?_); first
    | ((with_reducible apply XE.var); · exact rfl)
    | (with_reducible first
      | refine XE.op ?_
      | refine XE.int ?_
      | refine XE.str ?_
      | refine XE.ite ?_
      | refine XE.cb ?_
      | refine XE.tup ?_
      | refine XE.bl ?_
      | refine XE.non ?_
      | refine XE.ty ?_
      | refine XE.un ?_
      | refine XE.andV ?_
      | refine XE.orV ?_
      | refine XE.notV ?_
      | refine XE.slice ?_
      | refine XE.chain ?_))
  | ((with_reducible refine idE ?_); (with_reducible refine XE.callP ?_ (fun _ => rfl) (dD := []) (fun _ => .nil) ?_); (focus (first | with_reducible exact mo_R | walk_at "mo")))
  | ((with_reducible refine idE ?_); (with_reducible refine XE.methP ?_ (fun _ => rfl) (dD := []) (fun _ => .nil) ?_); (focus (first | with_reducible exact mo_R | walk_at "mo")))
  | ((with_reducible refine idE ?_); (with_reducible refine XE.callT mo_R (fun _ => rfl) (dD := []) (fun _ => .nil) ?_))
  | ((with_reducible refine idE ?_); (with_reducible refine XE.callNP ?_ (fun _ => rfl) ?_); (focus (first | with_reducible exact mo_R | walk_at "mo")))
  | ((with_reducible refine idE ?_); (with_reducible refine XE.callNTP mo_R (fun _ => rfl) ?_))
  | ((with_reducible refine idA ?_); with_reducible first
      | refine XA.nil ?_
      | refine XA.cons ?_)
  | ((with_reducible refine idR ?_); first
      | (with_reducible first
        | refine XR.add_int ?_
        | refine XR.eq_int ?_
        | refine XR.ne_int ?_
        | refine XR.i0 ?_
        | refine XR.subB ?_
        | refine XR.ne_dQ ?_
        | refine XR.eq_dQ ?_
        | refine XR.b0 ?_
        | refine XR.isN ?_
        | refine XR.ntN ?_)
      | refine XR.ix_tup rfl ?_
      | refine XR.ix_lst (by first | exact LsAt.lst | exact LsAt.raw At.hd) rfl ?_)
  | ((with_reducible refine idS ?_); with_reducible first
      | refine XS.seq ?_
      | refine XS.asg ?_
      | refine XS.ret ?_
      | refine XS.ifs ?_
      | refine XS.next ?_
      | refine XS.drop ?_
      | refine XS.par ?_
      | refine XS.par3 ?_)
  | ((with_reducible refine idT ?_); with_reducible first
      | refine XT.tst ?_
      | refine XT.bool ?_
      | refine XT.and ?_
      | refine XT.or ?_
      | refine XT.not ?_)
  | ((with_reducible refine idT ?_); refine XT.yes ?_)
  | ((with_reducible refine idS ?_); refine XS.aug rfl ?_)
  | with_reducible refine ex1 ?_
  | refine pickF rfl ?_
  | refine pickT rfl ?_
  | ((with_reducible refine idO ?_); with_reducible first
      | refine XO.none ?_
      | refine XO.some ?_)
  | ((with_reducible refine idGs ?_); with_reducible first
      | refine XGs.nil ?_
      | refine XGs.cons ?_)
  | ((with_reducible refine idG ?_); with_reducible first
      | refine XG.name (by simp) ?_
      | refine XG.tup rfl ?_)
  | with_reducible refine XC.abs ?_
  | with_reducible refine XU.neg ?_
  | refine ⟨_, _, rfl, ?_⟩
  | refine ⟨_, _, _, rfl, ?_⟩
  | refine ⟨_, rfl, ?_⟩
  | refine ⟨show (_ : Nat) + 1 ≤ 16000000 by simp only [List.length_cons, List.length_nil] <;> decide, ?_⟩
  | refine ⟨show (0 : Nat) ≤ 16000000 by decide, ?_⟩
  | refine ⟨rfl, rfl, rfl, _, (by walk_at "use"), ?_⟩
  | refine ⟨rfl, rfl, rfl, (by walk_at "tab"), _, (by walk_at "use"), ?_⟩
  | refine ⟨rfl, (by walk_at "tab"), _, (by walk_at "use"), ?_⟩
  | refine ⟨_, .ins, rfl, ?_⟩
  | ((refine ⟨rfl, ?_⟩); (with_reducible refine u_is_lessA ?_ ?_ ?_); (focus walk_at "bq"); (focus walk_at "bq"))
  | ((refine ⟨rfl, ?_⟩); (with_reducible refine u_sum_ofA ?_ ?_ ?_); (focus walk_at "bq"); (focus walk_at "bq"))
  | ((refine ⟨rfl, ?_⟩); (with_reducible refine u_rest_ofA ?_ ?_ ?_); (focus walk_at "bq"); (focus walk_at "bq"))
  | ((refine ⟨rfl, ?_⟩); (with_reducible refine u_product_ofA ?_ ?_ ?_); (focus walk_at "bq"); (focus walk_at "bq"))
  | refine ⟨rfl, _, (by walk_at "use"), ?_⟩
  | dsimp only [List.set_cons_zero, List.set_cons_succ]))
local macro_rules | `(tactic| walk_at "sp") => `(tactic| first | refine ⟨[], _, rfl, rfl, ?_⟩ | refine ⟨rfl, ?_⟩)
local macro_rules | `(tactic| walk_at "tab") => `(tactic| first | exact .hd | exact .tl .hd | exact .tl (.tl .hd) | exact .tl (.tl (.tl .hd)))
local macro_rules | `(tactic| walk_at "sp1") => `(tactic| first | refine ⟨[_], _, rfl, rfl, ?_⟩ | refine ⟨rfl, ?_⟩)
local macro_rules | `(tactic| walk_at "sp2") => `(tactic| first | refine ⟨[_, _], _, rfl, rfl, ?_⟩ | refine ⟨rfl, ?_⟩)

local macro_rules | `(tactic| walk_at "mo") => `(tactic| first | exact mo_L_take | exact mo_L_pick | exact mo_L_number | exact mo_L_part | exact mo_L_step)
local macro_rules | `(tactic| walk_at "callD") => `(tactic| (refine XE.call (by walk_at "mo") (fun _ => rfl) (dD := []) (fun _ => .nil) ?_))
theorem mem_let {z : Nat} (h : z ∈ lLet.cps.toList) : 97 ≤ z ∧ z ≤ 122 := by
  have e : lLet.cps.toList = [97,98,99,100,101,102,103,104,105,106,107,108,109,110,111,112,113,114,115,116,117,118,119,120,121,122] := rfl
  rw [e] at h
  simp only [List.mem_cons, List.not_mem_nil, or_false] at h
  omega
theorem let_get {k : Nat} (h : k < 26) : lLet.cps.toList[k]? = some (97 + k) := by
  have : ∀ k < 26, lLet.cps.toList[k]? = some (97 + k) := by decide
  exact this k h
theorem joinL_one : ∀ fl : List Nat, TL.joinL [] (fl.map fun z => [z]) = fl
  | [] => rfl
  | [z] => rfl
  | z :: y :: r => by
    have := joinL_one (y :: r)
    show [z] ++ [] ++ TL.joinL [] ((y :: r).map fun z => [z]) = _
    rw [this]
    rfl
theorem join_chars (fl : List Nat) : Txt.join (Str.ofString "") (fl.map fun z => (⟨#[z]⟩ : Str)) = S fl := by
  have e := SX.join_S [] (fl.map fun z => [z])
  rw [joinL_one, List.map_map] at e
  exact e
def nameAt (fl : List Nat) (sh st : Int) (i : Nat) : Str := S (fl ++ [97 + ((sh + st * (0 + (i : Nat))).fmod 26).toNat])
theorem names_ne {sh st : Int} {i j : Nat} (hst : st ∈ ([1, 3, 5, 7, 9, 11] : List Int)) (h0 : 0 ≤ sh) (hij : i < j) (hj : j < 26) : ¬ 97 + ((sh + st * (0 + (i : Nat))).fmod 26).toNat = 97 + ((sh + st * (0 + (j : Nat))).fmod 26).toNat := by
  rw [Int.fmod_eq_emod_of_nonneg _ (by omega), Int.fmod_eq_emod_of_nonneg _ (by omega)]
  simp only [List.mem_cons, List.not_mem_nil, or_false] at hst
  rcases hst with rfl | rfl | rfl | rfl | rfl | rfl <;> omega
theorem seqI {r : Int} {n : Nat} (h0 : 0 ≤ r) (h1 : r < n) : seqIndex? r n = some r.toNat := by
  simp [seqIndex?]
  omega
theorem erase_map {α β : Type} (f : α → β) : ∀ (xs : List α) (i : Nat), (xs.map f).eraseIdx i = (xs.eraseIdx i).map f
  | [], _ => rfl
  | _ :: _, 0 => rfl
  | x :: xs, i + 1 => by
    show f x :: (xs.map f).eraseIdx i = f x :: (xs.eraseIdx i).map f
    rw [erase_map f xs i]
theorem erase_perm {α : Type} : ∀ {xs : List α} {i : Nat} {x : α}, xs[i]? = some x → (x :: xs.eraseIdx i).Perm xs
  | [], _, _, h => by simp at h
  | y :: xs, 0, x, h => by
    have h : y = x := Option.some.inj h
    subst h
    exact List.Perm.refl _
  | y :: xs, i + 1, x, h => by
    have h1 := erase_perm (xs := xs) (i := i) h
    exact (List.Perm.swap y x _).trans (h1.cons y)
theorem nodup_range (n : Nat) : ([] ++ (List.range n).map fun i : Nat => (i : Int)).Nodup := by
  rw [List.nil_append, List.nodup_iff_pairwise_ne, List.pairwise_map]
  exact (List.nodup_iff_pairwise_ne.mp List.nodup_range).imp fun h => by omega
section
variable {P : Program} {w : World} {K : PySem.W.Frag} {mg : Str → Option Value} {base : Heap}
theorem ok_L_lot (T : Txt K mg) : FnOk P w K mg base (L2.CX P w) 2 T.L_lot.a T.L_lot.fd ["draw", "many", "size"] (spD K 3 (sp_L_lot)) := by
  refine fn_okD T.L_lot.F sc_L_lot rfl fun cdv A outer s H E hr => ?_
  have nd := sc_L_lot.nd
  have hu64 := hr.units
  have hu65 := hu65_of hr
  have hu1 := hu_of hr
  refine ⟨_, (pss_cons (ps_par (i := 3) (j := 4) rfl nd rfl rfl (by decide) rfl rfl (pa_cons (pe_listRg (by rfl) (by rfl) T.m_list (prg_1 (by rfl) T.m_range (pv 2))) (pa_cons (pe_lst pa_nil) pa_nil)) (by rfl))
      (pss_cons (ps_for (passes_of rfl) rfl (pi_range1 rfl T.m_range (pa_cons (pv 1) pa_nil)) (pg_name (i := 5) nd rfl (by first | exact Or.inl rfl | exact Or.inr rfl))
      (pss_one (ps_expr (pe_bmK (K := K) rfl PySem.F.plainAttrs_list PySem.F.slot_list_append PySem.F.type_list_append mt_append (pv 4) (pa_cons (pe_bmK (K := K) rfl PySem.F.plainAttrs_list PySem.F.slot_list_pop PySem.F.type_list_pop mt_popAt (pv 3) (pa_cons (pe_call (ok_L_take T) (hr.mono (by decide)) rfl T.L_take.g T.L_take.F.kp (b_L_take T) .nil px0 (pa_cons (pv 0) (pa_cons (pe_callB (cr_lenK (K := K) rfl) (by rfl) T.m_len PySem.boot_len (pa_cons (pv 3) pa_nil)) pa_nil))) pa_nil)) pa_nil)))))
      (pss_one (ps_ret (pv 4))))), fun ds M kk xx hl h => ?_⟩
  try dsimp only [cxOf]
  obtain ⟨s, l, n, many, size, rfl, hS, hn, hms, hsz, hk⟩ := h
  refine XS.seq ?_
  walk_at "go"
  refine XE.lrgK ?_
  walk_at "go"
  refine ⟨by omega, fun pL hpL => ?_⟩
  walk_at "go"
  refine XE.lstM ?_
  walk_at "go"
  refine fun pF hpF => ?_
  walk_at "go"
  refine XS.for [5] (XI.rng1 ?_)
  walk_at "go"
  refine ⟨by omega, by omega, fun i ds M => (∃ u, ds = [some (.raw s), some (.int many), some (.int size), some (.raw pL), some (.raw pF), u]) ∧ ∃ (fs xs : List Int) (M' : Mem), M = (pF, .lst (fs.map D.int)) :: (pL, .lst (xs.map D.int)) :: M' ∧ IsA s l (n + i) M' ∧ fs.length = i ∧ xs.length = size - i ∧ (fs ++ xs).Nodup ∧ ∀ x ∈ fs ++ xs, 0 ≤ x ∧ x < size, ⟨⟨_, rfl⟩, [], _, _, rfl, hS, rfl, by simp, ?_, ?_⟩, ?_, ?_⟩
  · exact nodup_range size
  · intro x hx
    obtain ⟨j, hj, rfl⟩ := List.mem_map.mp (show x ∈ (List.range size).map (fun i : Nat => (i : Int)) from hx)
    have := List.mem_range.mp hj
    omega
  · rintro i x _ M hx ⟨⟨u, rfl⟩, fs, xs, M', rfl, hS, hf, hxl, nd, hr⟩
    rw [rngD_get] at hx
    split at hx
    rotate_left
    · cases hx
    rename_i hi
    have hi : i < many := hi
    walk_at "go"
    refine XE.bm ?_
    walk_at "go"
    refine ⟨ty_lst (.raw .hd), ?_⟩
    walk_at "go"
    refine XE.bm ?_
    walk_at "go"
    refine ⟨ty_lst (.raw (.tl .hd)), ?_⟩
    walk_at "go"
    walk_at "callD"
    walk_at "go"
    refine XC.len (.raw (.tl .hd)) ?_
    rw [List.length_map]
    walk_at "go"
    refine ⟨[_, _], _, rfl, rfl, s, l, n + i, xs.length, rfl, hS, by omega, by omega, lenB (by omega), fun r M1 r0 r1 hS => ?_⟩
    obtain ⟨y, hy⟩ : ∃ y, xs[r.toNat]? = some y := ⟨_, List.getElem?_eq_getElem (show r.toNat < xs.length by omega)⟩
    walk_at "go"
    refine XM.popAt (y := .int y) (j := r.toNat) (.tl .hd) (by omega) (by omega) ?_ (get_map hy) ?_
    · rw [List.length_map]
      exact seqI r0 r1
    walk_at "go"
    refine XM.append .hd ?_ ?_
    · rw [List.length_map]
      omega
    have hp : ((fs ++ [y]) ++ xs.eraseIdx r.toNat).Perm (fs ++ xs) := by
      rw [List.append_assoc]
      exact (erase_perm hy).append_left fs
    refine ⟨⟨_, rfl⟩, fs ++ [y], xs.eraseIdx r.toNat, M1, ?_, hS, by simp [hf], ?_, hp.nodup_iff.mpr nd, fun x hx => hr x (hp.mem_iff.mp hx)⟩
    · rw [erase_map, List.map_append]
      rfl
    · have := (erase_perm hy).length_eq
      rw [List.length_cons] at this
      omega
  · rintro _ M ⟨⟨u, rfl⟩, fs, xs, M', rfl, hS, hf, hxl, nd, hr⟩
    have hl2 : (rngD 0 (many : Int).toNat).length = many := by
      rw [rngD_len]
      omega
    rw [hl2] at hf hS
    refine XS.fz 3 rfl (.tl .hd) ?_
    refine XS.ret (XE.varF rfl .hd ?_)
    exact hk fs M' hf (List.nodup_append.mp nd).1 (fun x hx => hr x (List.mem_append_left _ hx)) (hS.more (by omega) (by omega))
theorem ok_L_names (T : Txt K mg) : FnOk P w K mg base (L2.CX P w) 3 T.L_names.a T.L_names.fd ["draw", "many"] (spD K 2 (sp_L_names)) := by
  refine fn_okD T.L_names.F sc_L_names rfl fun cdv A outer s H E hr => ?_
  have nd := sc_L_names.nd
  have hu64 := hr.units
  have hu65 := hu65_of hr
  have hu1 := hu_of hr
  refine ⟨_, (pss_cons (ps_set (i := 2) nd rfl (by first | exact Or.inl rfl | exact Or.inr rfl) pe_str)
      (pss_cons (ps_asg (pe_tup (pa_cons (pe_call (ok_L_take T) (hr.mono (by decide)) rfl T.L_take.g T.L_take.F.kp (b_L_take T) .nil px0 (pa_cons (pv 0) (pa_cons pe_int pa_nil))) (pa_cons (pe_call (ok_L_pick T) (hr.mono (by decide)) rfl T.L_pick.g T.L_pick.F.kp (b_L_pick T) .nil px0 (pa_cons (pv 0) (pa_cons (pe_lst (pa_cons pe_int (pa_cons pe_int (pa_cons pe_int (pa_cons pe_int (pa_cons pe_int (pa_cons pe_int pa_nil))))))) pa_nil))) pa_nil))) (pg_tupK (K := K) (n := 2) rfl rfl (pgs_cons (pg_name (i := 3) nd rfl (by first | exact Or.inl rfl | exact Or.inr rfl)) (pgs_cons (pg_name (i := 4) nd rfl (by first | exact Or.inl rfl | exact Or.inr rfl)) pgs_nil))))
      (pss_cons (ps_set (i := 5) nd rfl (by first | exact Or.inl rfl | exact Or.inr rfl) (pe_joinK (K := K) rfl pe_str (pe_lc (own := [("at", 6)]) (g := gName 6) (by rfl) nd (pi_range1 rfl T.m_range (pa_cons (pe_call (ok_L_pick T) (hr.mono (by decide)) rfl T.L_pick.g T.L_pick.F.kp (b_L_pick T) .nil px0 (pa_cons (pv 0) (pa_cons (pe_lst (pa_cons pe_int (pa_cons pe_int (pa_cons pe_int (pa_cons pe_int (pa_cons pe_int pa_nil)))))) pa_nil))) pa_nil)) (blkOk_by (N := N_L_names) (sc := defScope s_L_names) (by decide +kernel)) (fun _ _ _ _ _ => (pg_name (i := 6) nd rfl (by first | exact Or.inl rfl | exact Or.inr rfl))) (fun _ _ _ _ _ => pts_nil) (fun _ _ _ _ _ => (pe_call (ok_L_pick T) (hr.mono (by decide)) rfl T.L_pick.g T.L_pick.F.kp (b_L_pick T) .nil passL (pa_cons (pv 0) (pa_cons (pv 2) pa_nil)))))))
      (pss_one (ps_ret (pe_lc (own := [("at", 6)]) (g := gName 6) (by rfl) nd (pi_range1 rfl T.m_range (pa_cons (pv 1) pa_nil)) (blkOk_by (N := N_L_names) (sc := defScope s_L_names) (by decide +kernel)) (fun _ _ _ _ _ => (pg_name (i := 6) nd rfl (by first | exact Or.inl rfl | exact Or.inr rfl))) (fun _ _ _ _ _ => pts_nil) (fun _ _ _ _ _ => (pe_op (op_addK (K := K) rfl) (pv 5) (pe_ix (ix_K (K := K) rfl) (pv 2) (pe_op op_modN (pe_op (op_addK (K := K) rfl) (pv 3) (pe_op op_mulW (pv 4) (pv 6))) pe_int) (fun _ _ => rfl)))))))))), fun ds M kk xx hl h => ?_⟩
  try dsimp only [cxOf]
  obtain ⟨s, l, n, many, rfl, hS, hn, hm, hk⟩ := h
  refine XS.seq ?_
  walk_at "go"
  refine XS.asgG [3, 4] ?_
  walk_at "go"
  walk_at "callD"
  walk_at "go"
  walk_at "sp"
  refine ⟨s, l, _, _, rfl, hS, by omega, by decide, (by show Int.natAbs _ < 2 ^ 120; decide), fun sh M1 sh0 sh1 hS => ?_⟩
  walk_at "go"
  walk_at "callD"
  walk_at "go"
  refine XE.lstF ?_
  walk_at "go"
  walk_at "sp"
  refine ⟨s, l, _, _, _, rfl, hS, by omega, .lst, by simp, by simp, fun x M1 hx hS => ?_⟩
  obtain ⟨st, rfl, hst⟩ : ∃ st : Int, x = .int st ∧ st ∈ ([1, 3, 5, 7, 9, 11] : List Int) := by
    simp only [List.mem_cons, List.not_mem_nil, or_false] at hx
    rcases hx with h | h | h | h | h | h <;> exact ⟨_, h, by decide⟩
  walk_at "go"
  refine XE.m1 ?_
  walk_at "go"
  refine ⟨⟨_, rfl⟩, ?_⟩
  refine XE.lcG false (XI.rng1 ?_)
  walk_at "go"
  walk_at "callD"
  walk_at "go"
  refine XE.lstF ?_
  walk_at "go"
  walk_at "sp"
  refine ⟨s, l, _, _, _, rfl, hS, by omega, .lst, by simp, by simp, fun x M1 hx hS => ?_⟩
  obtain ⟨c, rfl, hc⟩ : ∃ c : Nat, x = .int c ∧ c ≤ 7 := by
    simp only [List.mem_cons, List.not_mem_nil, or_false] at hx
    rcases hx with h | h | h | h | h <;> exact ⟨_, h, by decide⟩
  walk_at "go"
  refine ⟨by omega, by omega, fun i acc M => ∃ fl : List Nat, acc = (fl.map fun z => (⟨#[z]⟩ : Str)).map D.str ∧ fl.length = i ∧ (∀ z ∈ fl, 97 ≤ z ∧ z ≤ 122) ∧ IsA s l (n + 3 + i) M, ⟨[], rfl, rfl, by simp, hS⟩, ?_, ?_⟩
  · rintro i x acc M hx ⟨fl, rfl, hfl, hz, hS⟩
    rw [rngD_get] at hx
    split at hx
    rotate_left
    · cases hx
    rename_i hi
    cases hx
    have hi : i < c := by omega
    walk_at "go"
    walk_at "callD"
    walk_at "go"
    walk_at "sp"
    refine ⟨s, l, _, .str lLet, _, rfl, hS, by omega, .str, by decide, by decide, fun x M2 hx hS => ?_⟩
    obtain ⟨z, hz2, rfl⟩ := List.mem_map.mp hx
    refine ⟨by rw [List.length_map, List.length_map]; omega, fl ++ [z], by simp only [List.map_append, List.map_cons, List.map_nil], by simp [hfl], fun y hy => ?_, hS.more (by omega) (by omega)⟩
    rcases List.mem_append.mp hy with hy | hy
    · exact hz y hy
    · rw [List.mem_singleton.mp hy]
      exact mem_let hz2
  · rintro acc M ⟨fl, rfl, hfl, hz, hS⟩
    rw [if_neg (by decide)]
    have hfl : fl.length = c := by
      rw [hfl, rngD_len]
      omega
    walk_at "go"
    have ej : Txt.join (Str.ofString "") (fl.map fun z => (⟨#[z]⟩ : Str)) = S fl := join_chars fl
    refine XM.join .lst ?_ ?_
    · have e1 : ((fl.map fun z => (⟨#[z]⟩ : Str)).map (·.length)).sum ≤ 1 * fl.length := by
        have := sum_le (n := 1) (ps := (fl.map fun z => (⟨#[z]⟩ : Str)).map (·.length)) (fun p hp => by
          obtain ⟨q, hq, rfl⟩ := List.mem_map.mp hp
          obtain ⟨z, _, rfl⟩ := List.mem_map.mp hq
          exact Nat.le_refl _)
        rw [List.length_map, List.length_map] at this
        exact this
      have e2 : (Str.ofString "").length = 0 := rfl
      rw [e2]
      omega
    rw [ej]
    walk_at "go"
    refine XE.lcMap (fun i : Nat => D.int (0 + (i : Nat))) (fun i : Nat => D.str (nameAt fl sh st i)) (fun a b h => by injection h with h; omega) (XI.rng1 ?_)
    walk_at "go"
    refine ⟨by omega, by omega, List.range many, rfl, by rw [List.length_range]; omega, fun i hi => ?_, ?_⟩
    · have hi := List.mem_range.mp hi
      have hst2 : 1 ≤ st ∧ st ≤ 11 := by
        simp only [List.mem_cons, List.not_mem_nil, or_false] at hst
        omega
      walk_at "go"
      refine XR.i (wide_mul (a := 64) (b := 64) (by show _ < 2 ^ 64; omega) (by show _ < 2 ^ 64; omega) (by decide) (by decide) (by decide)) ?_
      walk_at "go"
      refine XR.i (by decide) ?_
      have h26 := fmod_pos (a := sh + st * (0 + (i : Nat))) (p := 26) (by
        have : 0 ≤ st * (0 + (i : Int)) := Int.mul_nonneg (by omega) (by omega)
        omega) (by decide)
      refine XR.ix_str (c := 97 + ((sh + st * (0 + (i : Nat))).fmod 26).toNat) (by decide) (at_nat (j := ((sh + st * (0 + (i : Nat))).fmod 26).toNat) (by omega) (let_get (by omega))) ?_
      refine XR.add_str ?_ ?_
      · rw [SX.S_len]
        show fl.length + 1 ≤ 16000000
        omega
      · refine ⟨?_, rfl⟩
        show D.str (S fl ++ S [_]) = _
        rw [SX.S_cat]
        rfl
    · have e : ((List.range many).map fun i => D.str (nameAt fl sh st i)) = ((List.range many).map (nameAt fl sh st)).map D.str := (map_map' _ _ _).symm
      rw [e]
      refine hk _ M (by rw [List.length_map, List.length_range]) ?_ (fun x hx => ?_) (hS.more (by omega) (by omega))
      · rw [List.nodup_iff_pairwise_ne, List.pairwise_map]
        have hlt : (List.range many).Pairwise fun a b => a < b := List.pairwise_lt_range
        refine (List.pairwise_iff_getElem.mpr fun i j hi hj hij => ?_)
        rw [List.getElem_range, List.getElem_range]
        rw [List.length_range] at hi hj
        intro z
        have z2 := SX.S_inj z
        have z3 := List.append_cancel_left z2
        injection z3 with z3
        exact names_ne hst sh0 hij (by omega) z3
      · obtain ⟨i, hi, rfl⟩ := List.mem_map.mp hx
        have hst2 : 1 ≤ st ∧ st ≤ 11 := by
          simp only [List.mem_cons, List.not_mem_nil, or_false] at hst
          omega
        have h26 := fmod_pos (a := sh + st * (0 + (i : Nat))) (p := 26) (by
          have : 0 ≤ st * (0 + (i : Int)) := Int.mul_nonneg (by omega) (by omega)
          omega) (by decide)
        refine ⟨_, rfl, by simp, by simp; omega, fun c hc => ?_⟩
        rcases List.mem_append.mp hc with hc | hc
        · exact hz c hc
        · rw [List.mem_singleton.mp hc]
          omega
end
end My

namespace My
open PySem L2 DL PyProof.Rows SX
local macro_rules | `(tactic| walk_at "bq") => `(tactic| first | exact BQ.mono (by assumption) (by decide) | exact BQ.mono (BQ.sub (by assumption) (by assumption)) (by decide) | exact BQ.mono (BQ.add (by assumption) (by assumption)) (by decide) | exact BQ.mono (BQ.mul (by assumption) (by assumption)) (by decide))
def dLds (ns : List Str) (kf : Str → List Kn) : D := .fdct (ns.map fun n => (kN n, .lst ((kf n).map dKn)))
/-- what the law's loop has found after i pairs -/
def lawPl (ks : List Kn) (x t : Rat) (i : Nat) : Rat := match ks[i]? with
  | some k => if t < k.1 then posAt ks t else x
  | none => x
def R_L_at (ds : List D) (r : D) : Prop := ∃ (ks : List Kn) (t : Rat), ds = [.lst (ks.map dKn), dQ t] ∧ Kt ks ∧ BQ 200 t ∧ firstT ks ≤ t ∧ r = dQ (posAt ks t)
def R_L_floor (ds : List D) (r : D) : Prop := ∃ x L, ds = [dQ x, dL L] ∧ BQ 2000 x ∧ LOK L ∧ r = .int (floorQ L x)
def R_L_spot (ds : List D) (r : D) : Prop := ∃ x L, ds = [dQ x, dL L] ∧ BQ 2000 x ∧ LOK L ∧ r = dQ (spotQ L x)
theorem u_L_at {ks : List Kn} {t : Rat} (h : Kt ks) (hb : BQ 200 t) (h1 : firstT ks ≤ t) : R_L_at [.lst (ks.map dKn), dQ t] (dQ (posAt ks t)) := ⟨ks, t, rfl, h, hb, h1, rfl⟩
theorem u_L_floor {x : Rat} {L : Option Int} (h : BQ 1404 x) (hL : LOK L) : R_L_floor [dQ x, dL L] (.int (floorQ L x)) := ⟨x, L, rfl, h.mono (by decide), hL, rfl⟩
theorem u_L_floorW {x : Rat} {L : Option Int} (h : BQ 2000 x) (hL : LOK L) : R_L_floor [dQ x, dL L] (.int (floorQ L x)) := ⟨x, L, rfl, h, hL, rfl⟩
theorem u_L_spot {x : Rat} {L : Option Int} (h : BQ 1404 x) (hL : LOK L) : R_L_spot [dQ x, dL L] (dQ (spotQ L x)) := ⟨x, L, rfl, h.mono (by decide), hL, rfl⟩
theorem u_L_spotW {x : Rat} {L : Option Int} (h : BQ 2000 x) (hL : LOK L) : R_L_spot [dQ x, dL L] (dQ (spotQ L x)) := ⟨x, L, rfl, h, hL, rfl⟩
local macro_rules | `(tactic| walk_at "go") => `(tactic| repeat (first
  | ((with_reducible refine idE ?_); first
    | ((with_reducible apply XE.var); · exact rfl)
    | (with_reducible first
      | refine XE.op ?_
      | refine XE.int ?_
      | refine XE.str ?_
      | refine XE.ite ?_
      | refine XE.cb ?_
      | refine XE.tup ?_
      | refine XE.bl ?_
      | refine XE.non ?_
      | refine XE.ty ?_
      | refine XE.un ?_
      | refine XE.andV ?_
      | refine XE.orV ?_
      | refine XE.notV ?_
      | refine XE.slice ?_
      | refine XE.chain ?_))
  | ((with_reducible refine idE ?_); (with_reducible refine XE.callP ?_ (fun _ => rfl) (dD := []) (fun _ => .nil) ?_); (focus (first | with_reducible exact mo_R | walk_at "mo")))
  | ((with_reducible refine idE ?_); (with_reducible refine XE.methP ?_ (fun _ => rfl) (dD := []) (fun _ => .nil) ?_); (focus (first | with_reducible exact mo_R | walk_at "mo")))
  | ((with_reducible refine idE ?_); (with_reducible refine XE.callT mo_R (fun _ => rfl) (dD := []) (fun _ => .nil) ?_))
  | ((with_reducible refine idE ?_); (with_reducible refine XE.callNP ?_ (fun _ => rfl) ?_); (focus (first | with_reducible exact mo_R | walk_at "mo")))
  | ((with_reducible refine idE ?_); (with_reducible refine XE.callNTP mo_R (fun _ => rfl) ?_))
  | ((with_reducible refine idA ?_); with_reducible first
      | refine XA.nil ?_
      | refine XA.cons ?_)
  | ((with_reducible refine idR ?_); first
      | (with_reducible first
        | refine XR.add_int ?_
        | refine XR.eq_int ?_
        | refine XR.ne_int ?_
        | refine XR.i0 ?_
        | refine XR.subB ?_
        | refine XR.ne_dQ ?_
        | refine XR.eq_dQ ?_
        | refine XR.b0 ?_
        | refine XR.isN ?_
        | refine XR.ntN ?_)
      | refine XR.ix_tup rfl ?_
      | refine XR.ix_lst (by first | exact LsAt.lst | exact LsAt.raw At.hd) rfl ?_)
  | ((with_reducible refine idS ?_); with_reducible first
      | refine XS.seq ?_
      | refine XS.asg ?_
      | refine XS.ret ?_
      | refine XS.ifs ?_
      | refine XS.next ?_
      | refine XS.drop ?_
      | refine XS.par ?_
      | refine XS.par3 ?_)
  | ((with_reducible refine idT ?_); with_reducible first
      | refine XT.tst ?_
      | refine XT.bool ?_
      | refine XT.and ?_
      | refine XT.or ?_
      | refine XT.not ?_)
  | ((with_reducible refine idT ?_); refine XT.yes ?_)
  | ((with_reducible refine idS ?_); refine XS.aug rfl ?_)
  | with_reducible refine ex1 ?_
  | refine pickF rfl ?_
  | refine pickT rfl ?_
  | ((with_reducible refine idO ?_); with_reducible first
      | refine XO.none ?_
      | refine XO.some ?_)
  | ((with_reducible refine idGs ?_); with_reducible first
      | refine XGs.nil ?_
      | refine XGs.cons ?_)
  | ((with_reducible refine idG ?_); with_reducible first
      | refine XG.name (by simp) ?_
      | refine XG.tup rfl ?_)
  | with_reducible refine XC.abs ?_
  | with_reducible refine XU.neg ?_
  | refine ⟨_, _, rfl, ?_⟩
  | refine ⟨_, _, _, rfl, ?_⟩
  | refine ⟨_, rfl, ?_⟩
  | refine ⟨show (_ : Nat) + 1 ≤ 16000000 by simp only [List.length_cons, List.length_nil] <;> decide, ?_⟩
  | refine ⟨show (0 : Nat) ≤ 16000000 by decide, ?_⟩
  | refine ⟨rfl, rfl, rfl, _, (by walk_at "use"), ?_⟩
  | refine ⟨rfl, rfl, rfl, (by walk_at "tab"), _, (by walk_at "use"), ?_⟩
  | refine ⟨rfl, (by walk_at "tab"), _, (by walk_at "use"), ?_⟩
  | refine ⟨_, .ins, rfl, ?_⟩
  | ((refine ⟨rfl, ?_⟩); (with_reducible refine u_is_lessA ?_ ?_ ?_); (focus walk_at "bq"); (focus walk_at "bq"))
  | ((refine ⟨rfl, ?_⟩); (with_reducible refine u_sum_ofA ?_ ?_ ?_); (focus walk_at "bq"); (focus walk_at "bq"))
  | ((refine ⟨rfl, ?_⟩); (with_reducible refine u_rest_ofA ?_ ?_ ?_); (focus walk_at "bq"); (focus walk_at "bq"))
  | ((refine ⟨rfl, ?_⟩); (with_reducible refine u_product_ofA ?_ ?_ ?_); (focus walk_at "bq"); (focus walk_at "bq"))
  | refine ⟨rfl, _, (by walk_at "use"), ?_⟩
  | dsimp only [List.set_cons_zero, List.set_cons_succ]))
local macro_rules | `(tactic| walk_at "sp") => `(tactic| first | refine ⟨[], _, rfl, rfl, ?_⟩ | refine ⟨rfl, ?_⟩)
local macro_rules | `(tactic| walk_at "tab") => `(tactic| first | exact .hd | exact .tl .hd | exact .tl (.tl .hd) | exact .tl (.tl (.tl .hd)))
local macro_rules | `(tactic| walk_at "sp1") => `(tactic| first | refine ⟨[_], _, rfl, rfl, ?_⟩ | refine ⟨rfl, ?_⟩)
local macro_rules | `(tactic| walk_at "sp2") => `(tactic| first | refine ⟨[_, _], _, rfl, rfl, ?_⟩ | refine ⟨rfl, ?_⟩)

local macro_rules | `(tactic| walk_at "mo") => `(tactic| first | exact mo_R)
local macro_rules | `(tactic| walk_at "use") => `(tactic| (try dsimp only [List.cons_append, List.nil_append, List.append_nil]); first | ((with_reducible apply u_L_sum) <;> first | assumption | walk_at "bq") | ((with_reducible apply u_L_rest) <;> first | assumption | walk_at "bq") | ((with_reducible apply u_L_less) <;> first | assumption | walk_at "bq") | ((with_reducible apply u_L_floor) <;> first | assumption | walk_at "bq") | ((with_reducible apply u_L_floorW) <;> first | assumption | walk_at "bq") | exact u_L_sum (by walk_at "bq") (by walk_at "bq") | exact u_L_rest (by walk_at "bq") (by walk_at "bq") | exact u_L_less (by walk_at "bq") (by walk_at "bq") | exact u_L_floor (by assumption) (by assumption) | exact u_L_floorW (by assumption) (by assumption))
section
variable {P : Program} {w : World} {K : PySem.W.Frag} {mg : Str → Option Value} {base : Heap}
theorem ok_L_floor (T : Txt K mg) : FnOk P w K mg base (L2.CX P w) 1 T.L_floor.a T.L_floor.fd ["place", "ring"] (spD K 2 (pur ((spR R_L_floor)))) := by
  refine fn_okP T.L_floor.F sc_L_floor rfl fun cdv A outer s H E hr => ?_
  have nd := sc_L_floor.nd
  have hu64 := hr.units
  have hu65 := hu65_of hr
  have hu1 := hu_of hr
  refine ⟨_, (pss_one (ps_ret (pe_ifExp (pt_cmpR op_isN' (pv 1) pe_non (nomark _)) pe_int (pe_op op_fdivZ (pe_ix (ix_K (K := K) rfl) (pv 0) pe_int (fun _ _ => rfl)) (pe_op op_mulW (pe_ix (ix_K (K := K) rfl) (pv 0) pe_int (fun _ _ => rfl)) (pv 1)))))), fun ds kk xx hl h => ?_⟩
  try dsimp only [cxOf]
  obtain ⟨_, ⟨x, L, rfl, hx, hL, rfl⟩, hk⟩ := h
  cases L with
  | none =>
    dsimp only [dL]
    walk_at "go"
    exact hk
  | some l =>
    obtain ⟨h1, h2⟩ := hL l rfl
    dsimp only [dL]
    walk_at "go"
    refine XR.i (hx.den.mulOk h2 (by decide) (by decide) (by decide)) ?_
    walk_at "go"
    refine XR.i ((hx.den.mul h2).divOk (Int.mul_ne_zero (den_ne x) (by omega)) (by decide) (by decide)) ?_
    rw [← floor_fdiv h1]
    exact hk
theorem ok_L_spot (T : Txt K mg) : FnOk P w K mg base (L2.CX P w) 3 T.L_spot.a T.L_spot.fd ["place", "ring"] (spD K 2 (pur ((spR R_L_spot)))) := by
  refine fn_okP T.L_spot.F sc_L_spot rfl fun cdv A outer s H E hr => ?_
  have nd := sc_L_spot.nd
  have hu64 := hr.units
  have hu65 := hu65_of hr
  have hu1 := hu_of hr
  refine ⟨_, (pss_one (ps_ret (pe_call (ok_L_rest T) (hr.mono (by decide)) rfl T.L_rest.g T.L_rest.F.kp (b_L_rest T) .nil px0 (pa_cons (pv 0) (pa_cons (pe_tup (pa_cons (pe_op op_mulW (pe_call (ok_L_floor T) (hr.mono (by decide)) rfl T.L_floor.g T.L_floor.F.kp (b_L_floor T) .nil px0 (pa_cons (pv 0) (pa_cons (pv 1) pa_nil))) (pe_ifExp (pt_cmpR op_isN' (pv 1) pe_non (nomark _)) pe_int (pv 1))) (pa_cons pe_int pa_nil))) pa_nil))))), fun ds kk xx hl h => ?_⟩
  try dsimp only [cxOf]
  obtain ⟨_, ⟨x, L, rfl, hx, hL, rfl⟩, hk⟩ := h
  have fB := floorQ_B hL hx (by decide)
  have hxF : BQ 2000 x := hx
  cases L with
  | none =>
    dsimp only [dL]
    walk_at "go"
    refine XR.i (fB.mulOk (B.zero (n := 1)) (by decide) (by decide) (by decide)) ?_
    walk_at "go"
    refine ⟨rfl, _, u_L_rest (q := ((floorQ none x * 0 : Int) : Rat)) (by walk_at "bq") (BQ.int (by rw [Int.mul_zero]; exact B.zero) (by decide)), ?_⟩
    have e : x - ((floorQ none x * 0 : Int) : Rat) = spotQ none x := by
      rw [Int.mul_zero]
      show x - (0 : Rat) = x
      grind
    rw [e]
    exact hk
  | some l =>
    obtain ⟨h1, h2⟩ := hL l rfl
    dsimp only [dL]
    walk_at "go"
    refine XR.i (fB.mulOk h2 (by decide) (by decide) (by decide)) ?_
    walk_at "go"
    have mQ : BQ 2400 ((floorQ (some l) x * l : Int) : Rat) := BQ.int (fB.mul h2) (by decide)
    refine ⟨rfl, _, u_L_rest (q := ((floorQ (some l) x * l : Int) : Rat)) (by walk_at "bq") (by walk_at "bq"), ?_⟩
    have e : x - ((floorQ (some l) x * l : Int) : Rat) = spotQ (some l) x := by
      rw [Rat.intCast_mul]
      show x - ((x / (l : Rat)).floor : Rat) * (l : Rat) = x - (l : Rat) * ((x / (l : Rat)).floor : Int)
      grind
    rw [e]
    exact hk
theorem ok_L_at (T : Txt K mg) : FnOk P w K mg base (L2.CX P w) 3 T.L_at.a T.L_at.fd ["knots", "time"] (spD K 2 (pur ((spR R_L_at)))) := by
  refine fn_okP T.L_at.F sc_L_at rfl fun cdv A outer s H E hr => ?_
  have nd := sc_L_at.nd
  have hu64 := hr.units
  have hu65 := hu65_of hr
  have hu1 := hu_of hr
  refine ⟨_, (pss_cons (ps_set (i := 2) nd rfl (by first | exact Or.inl rfl | exact Or.inr rfl) (pe_ix (ix_K (K := K) rfl) (pe_ix (ix_K (K := K) rfl) (pv 0) (pe_un un_neg pe_int) (fun _ _ => rfl)) pe_int (fun _ _ => rfl)))
      (pss_cons (ps_for (passes_of rfl) rfl (pi_zipK (K := K) rfl (by rfl) T.m_zip (pa_cons (pv 0) (pa_cons (pe_slice (sl_K (K := K) rfl) (pv 0) (po_some pe_int) po_none) pa_nil))) (pg_tupK (K := K) (n := 2) rfl rfl (pgs_cons (pg_name (i := 3) nd rfl (by first | exact Or.inl rfl | exact Or.inr rfl)) (pgs_cons (pg_name (i := 4) nd rfl (by first | exact Or.inl rfl | exact Or.inr rfl)) pgs_nil)))
      (pss_one (ps_if (PW.pt (pw_and (pt_not (pt_val (pe_call (ok_L_less T) (hr.mono (by decide)) rfl T.L_less.g T.L_less.F.kp (b_L_less T) .nil px0 (pa_cons (pv 1) (pa_cons (pe_ix (ix_K (K := K) rfl) (pv 3) pe_int (fun _ _ => rfl)) pa_nil))))) (pw_and1 (pt_val (pe_call (ok_L_less T) (hr.mono (by decide)) rfl T.L_less.g T.L_less.F.kp (b_L_less T) .nil px0 (pa_cons (pv 1) (pa_cons (pe_ix (ix_K (K := K) rfl) (pv 4) pe_int (fun _ _ => rfl)) pa_nil)))))))
      (pss_cons (ps_par (i := 5) (j := 6) rfl nd rfl rfl (by decide) rfl rfl (pa_cons (pe_call (ok_L_rest T) (hr.mono (by decide)) rfl T.L_rest.g T.L_rest.F.kp (b_L_rest T) .nil px0 (pa_cons (pe_ix (ix_K (K := K) rfl) (pv 4) pe_int (fun _ _ => rfl)) (pa_cons (pe_ix (ix_K (K := K) rfl) (pv 3) pe_int (fun _ _ => rfl)) pa_nil))) (pa_cons (pe_call (ok_L_rest T) (hr.mono (by decide)) rfl T.L_rest.g T.L_rest.F.kp (b_L_rest T) .nil px0 (pa_cons (pe_ix (ix_K (K := K) rfl) (pv 4) pe_int (fun _ _ => rfl)) (pa_cons (pe_ix (ix_K (K := K) rfl) (pv 3) pe_int (fun _ _ => rfl)) pa_nil))) pa_nil)) (by rfl))
      (pss_cons (ps_set (i := 7) nd rfl (by first | exact Or.inl rfl | exact Or.inr rfl) (pe_call (ok_L_rest T) (hr.mono (by decide)) rfl T.L_rest.g T.L_rest.F.kp (b_L_rest T) .nil px0 (pa_cons (pv 1) (pa_cons (pe_ix (ix_K (K := K) rfl) (pv 3) pe_int (fun _ _ => rfl)) pa_nil))))
      (pss_one (ps_set (i := 2) nd rfl (by first | exact Or.inl rfl | exact Or.inr rfl) (pe_call (ok_L_sum T) (hr.mono (by decide)) rfl T.L_sum.g T.L_sum.F.kp (b_L_sum T) .nil px0 (pa_cons (pe_ix (ix_K (K := K) rfl) (pv 3) pe_int (fun _ _ => rfl)) (pa_cons (pe_call (ok_L_f T) (hr.mono (by decide)) rfl T.L_f.g T.L_f.F.kp (b_L_f T) .nil px0 (pa_cons (pe_op op_mulW (pe_op op_mulW (pe_ix (ix_K (K := K) rfl) (pv 6) pe_int (fun _ _ => rfl)) (pe_ix (ix_K (K := K) rfl) (pv 5) pe_int (fun _ _ => rfl))) (pe_ix (ix_K (K := K) rfl) (pv 7) pe_int (fun _ _ => rfl))) (pa_cons (pe_op op_mulW (pe_op op_mulW (pe_ix (ix_K (K := K) rfl) (pv 6) pe_int (fun _ _ => rfl)) (pe_ix (ix_K (K := K) rfl) (pv 5) pe_int (fun _ _ => rfl))) (pe_ix (ix_K (K := K) rfl) (pv 7) pe_int (fun _ _ => rfl))) pa_nil))) pa_nil)))))))
      pss_nil)))
      (pss_one (ps_ret (pv 2))))), fun ds kk xx hl h => ?_⟩
  try dsimp only [cxOf]
  obtain ⟨_, ⟨ks, t, rfl, hK, ht, h0, rfl⟩, hk⟩ := h
  have hne := hK.ne
  have hpos : 0 < ks.length := List.length_pos_iff.mpr hne
  obtain ⟨kl, hkl⟩ : ∃ kl, ks[ks.length - 1]? = some kl := ⟨_, List.getElem?_eq_getElem (by omega)⟩
  have e00 : lawPl ks kl.2 t 0 = kl.2 := by
    obtain ⟨k0, hk0, e0, _⟩ := hK.get0
    unfold lawPl
    rw [hk0]
    rw [e0] at h0
    exact if_neg (by grind)
  walk_at "go"
  refine XR.ix_lst .lst (at_last (DL.get_map hkl) (by rw [List.length_map]; omega)) ?_
  walk_at "go"
  refine XS.for [3, 4] (XI.zip ?_)
  walk_at "go"
  refine XSl.lst .lst ?_
  walk_at "go"
  rw [cutD_tail]
  refine ⟨_, _, _, _, rfl, .inl ⟨rfl, rfl⟩, fun i ds M => (∃ a b c d e, ds = [some (.lst (ks.map dKn)), some (dQ t), some (dQ (lawPl ks kl.2 t i)), a, b, c, d, e]) ∧ M = [], ⟨⟨_, _, _, _, _, by (rw [e00]; try rfl)⟩, rfl⟩, ?_, ?_⟩
  · rintro i x _ M hx ⟨⟨y1, y2, y3, y4, y5, rfl⟩, rfl⟩
    obtain ⟨a, c, ha, hc, rfl⟩ := zipD_get hx
    rw [List.getElem?_drop, Nat.add_comm] at hc
    obtain ⟨ka, hka, rfl⟩ := map_get ha
    obtain ⟨kc, hkc, rfl⟩ := map_get hc
    have hlt : ka.1 < kc.1 := hK.asc i ka kc hka hkc
    obtain ⟨b1, b2⟩ := hK.B.get hka
    obtain ⟨b3, b4⟩ := hK.B.get hkc
    have e1 : lawPl ks kl.2 t i = if t < ka.1 then posAt ks t else kl.2 := by unfold lawPl; rw [hka]
    have e2 : lawPl ks kl.2 t (i + 1) = if t < kc.1 then posAt ks t else kl.2 := by unfold lawPl; rw [hkc]
    walk_at "go"
    refine ⟨fun hb => ?_, fun hb => ?_⟩
    · walk_at "go"
      refine ⟨fun hd => ?_, fun hd => ?_⟩
      · have hd := of_decide_eq_true hd
        have hb : ¬ t < ka.1 := by simpa using hb
        rw [if_pos hd, pos_piece hK.asc hka hkc hb hd] at e2
        have u0 : kc.1 - ka.1 ≠ 0 := sub_ne hlt
        have runB : BQ 401 (kc.1 - ka.1) := b3.sub b1
        have riseB : BQ 401 (kc.2 - ka.2) := b4.sub b2
        have goneB : BQ 401 (t - ka.1) := ht.sub b1
        have vB : BQ 1203 ((kc.2 - ka.2) / (kc.1 - ka.1) * (t - ka.1)) := (riseB.div runB u0).mul goneB
        walk_at "go"
        refine XR.i (riseB.num.mulOk runB.den (by decide) (by decide) (by decide)) ?_
        walk_at "go"
        refine XR.i ((riseB.num.mul runB.den).mulOk goneB.num (by decide) (by decide) (by decide)) ?_
        walk_at "go"
        refine XR.i (riseB.den.mulOk runB.num (by decide) (by decide) (by decide)) ?_
        walk_at "go"
        refine XR.i ((riseB.den.mul runB.num).mulOk goneB.den (by decide) (by decide) (by decide)) ?_
        walk_at "go"
        refine ⟨rfl, _, u_L_f (Int.mul_ne_zero (Int.mul_ne_zero (den_ne _) (num_ne u0)) (den_ne _)) (((riseB.den.mul runB.num).mul goneB.den).mono (by decide)), ?_⟩
        rw [rise_divInt u0]
        walk_at "go"
        exact ⟨⟨_, _, _, _, _, by (rw [e2]; try rfl)⟩, rfl⟩
      · have hd := of_decide_eq_false hd
        have hb : ¬ t < ka.1 := by simpa using hb
        rw [if_neg hb] at e1
        rw [if_neg hd] at e2
        have e12 := e2.trans e1.symm
        walk_at "go"
        exact ⟨⟨_, _, _, _, _, by (rw [e12]; try rfl)⟩, rfl⟩
    · have hb : t < ka.1 := by simpa using hb
      rw [if_pos hb] at e1
      rw [if_pos (by grind)] at e2
      have e12 := e2.trans e1.symm
      walk_at "go"
      exact ⟨⟨_, _, _, _, _, by (rw [e12]; try rfl)⟩, rfl⟩
  · rintro _ M ⟨⟨y1, y2, y3, y4, y5, rfl⟩, rfl⟩
    have hzl : (zipD (ks.map dKn) ((ks.map dKn).drop 1)).length = ks.length - 1 := by
      unfold zipD
      rw [List.length_map, List.length_zip, List.length_drop, List.length_map]
      omega
    rw [hzl]
    have e : lawPl ks kl.2 t (ks.length - 1) = posAt ks t := by
      unfold lawPl
      rw [hkl]
      by_cases z : t < kl.1
      · exact if_pos z
      · exact (if_neg z).trans (pos_last hK.asc hkl (by omega) z).symm
    rw [e]
    walk_at "go"
    exact hk
end
end My

namespace My
open PySem L2 DL PyProof.Rows SX
local macro_rules | `(tactic| walk_at "bq") => `(tactic| first | exact BQ.mono (by assumption) (by decide) | exact BQ.mono (BQ.sub (by assumption) (by assumption)) (by decide) | exact BQ.mono (BQ.add (by assumption) (by assumption)) (by decide) | exact BQ.mono (BQ.mul (by assumption) (by assumption)) (by decide))
theorem merge_go {f : Str → D} : ∀ (ns : List Str) (acc : List (Key × D)), ns.Nodup → (∀ p ∈ acc, ∀ n ∈ ns, p.1 ≠ kN n) → (ns.map fun n => ((kN n, f n) : Key × D)).foldl (fun acc kv => putDK acc kv.1 kv.2) acc = acc ++ ns.map fun n => (kN n, f n)
  | [], acc, _, _ => by simp
  | n :: ns, acc, nd, h => by
    rw [List.map_cons, List.foldl_cons, put_new (fun p hp => h p hp n List.mem_cons_self), merge_go ns _ (List.nodup_cons.mp nd).2 (fun p hp m hm => ?_), List.append_assoc]
    · rfl
    · rcases List.mem_append.mp hp with hp | hp
      · exact h p hp m (List.mem_cons_of_mem _ hm)
      · rw [List.mem_singleton.mp hp]
        exact fun z => (List.nodup_cons.mp nd).1 (by rw [Sum.inr.inj z]; exact hm)
theorem merge_names {f : Str → D} {ns : List Str} (nd : ns.Nodup) : mergeD (ns.map fun n => ((kN n, f n) : Key × D)) = ns.map fun n => (kN n, f n) := by
  have := merge_go (f := f) ns [] nd (fun p hp => by simp at hp)
  exact this
/-- a name with its Timetable -/
def tabsF (C : Addr) (kf : Str → List Kn) : D → Option D
  | .str n => some (.tup [.str n, dTab C (kf n)])
  | _ => none
theorem dQ_lt {q : Rat} {n d : Int} (h1 : q.num = n) (h2 : (q.den : Int) = d) : dQ q = .tup [.int n, .int d] := by
  unfold dQ
  rw [h1, h2]
theorem pick_st {x : D} (h : x ∈ [D.tup [.int 1, .int 1], D.tup [.int 1, .int 3], D.tup [.int 7, .int 2], D.tup [.int 1, .int 2], D.tup [.int 1, .int 6], D.tup [.int 2, .int 7], D.tup [.int 1, .int (10 ^ Int.toNat 15)]]) : ∃ u : Rat, x = dQ u ∧ BQ 60 u ∧ 0 < u := by
  have lit : ∀ {u : Rat} {n d : Int}, u.num = n → (u.den : Int) = d → B 60 n → B 60 d → 0 < u → x = D.tup [.int n, .int d] → ∃ u : Rat, x = dQ u ∧ BQ 60 u ∧ 0 < u := fun {u n d} h1 h2 h3 h4 h5 h6 => ⟨u, h6.trans (dQ_lt h1 h2).symm, ⟨by rw [h1]; exact h3, by rw [h2]; exact h4⟩, h5⟩
  simp only [List.mem_cons, List.not_mem_nil, or_false] at h
  rcases h with h | h | h | h | h | h | h
  · exact lit (u := 1) (by decide +kernel) (by decide +kernel) (show Int.natAbs _ < 2 ^ 60 by decide) (show Int.natAbs _ < 2 ^ 60 by decide) (by decide +kernel) h
  · exact lit (u := 1 / 3) (by decide +kernel) (by decide +kernel) (show Int.natAbs _ < 2 ^ 60 by decide) (show Int.natAbs _ < 2 ^ 60 by decide) (by decide +kernel) h
  · exact lit (u := 7 / 2) (by decide +kernel) (by decide +kernel) (show Int.natAbs _ < 2 ^ 60 by decide) (show Int.natAbs _ < 2 ^ 60 by decide) (by decide +kernel) h
  · exact lit (u := 1 / 2) (by decide +kernel) (by decide +kernel) (show Int.natAbs _ < 2 ^ 60 by decide) (show Int.natAbs _ < 2 ^ 60 by decide) (by decide +kernel) h
  · exact lit (u := 1 / 6) (by decide +kernel) (by decide +kernel) (show Int.natAbs _ < 2 ^ 60 by decide) (show Int.natAbs _ < 2 ^ 60 by decide) (by decide +kernel) h
  · exact lit (u := 2 / 7) (by decide +kernel) (by decide +kernel) (show Int.natAbs _ < 2 ^ 60 by decide) (show Int.natAbs _ < 2 ^ 60 by decide) (by decide +kernel) h
  · exact lit (u := 1 / 10 ^ 15) (by decide +kernel) (by decide +kernel) (show Int.natAbs _ < 2 ^ 60 by decide) (show Int.natAbs _ < 2 ^ 60 by decide) (by decide +kernel) h
def R_L_tables (C : Addr) (ds : List D) (r : D) : Prop := ∃ ns kf, ds = [dLds ns kf] ∧ ns.Nodup ∧ ns.length ≤ 12 ∧ (∀ n ∈ ns, Kt (kf n)) ∧ r = dTabs C ns kf
def R_L_grown (C : Addr) (ds : List D) (r : D) : Prop := ∃ L b ns kf n t, ds = [dTabs C ns kf, .str n, dQ b, dQ t, dL L] ∧ Ask L b ns kf n t ∧ r = .int (growQ L b ns kf n t)
def sp_L_time : DSp := fun ds M k _ => ∃ (s l : Addr) (n : Nat) (L : Option Int) (b : Rat) (ns : List Str) (kf : Str → List Kn), ds = [.raw s, dLds ns kf] ∧ IsA s l n M ∧ n + 10 ≤ 1000000000 ∧ Loads L b ns kf ∧ BQ 80 b ∧ ∀ (t : Rat) M', BQ 200 t → b ≤ t → IsA s l (n + 10) M' → k (dQ t) M'
theorem mo_L_time : MonoD sp_L_time := fun _ _ _ _ _ _ hk _ ⟨s, l, n, L, b, ns, kf, e, e2, h1, h2, h3, q⟩ => ⟨s, l, n, L, b, ns, kf, e, e2, h1, h2, h3, fun r M' a b c => hk _ _ (q r M' a b c)⟩
local macro_rules | `(tactic| walk_at "go") => `(tactic| repeat (first
  | ((with_reducible refine idE ?_); first
    | ((with_reducible apply XE.var); · exact rfl)
    | (with_reducible first
      | refine XE.op ?_
      | refine XE.int ?_
      | refine XE.str ?_
      | refine XE.ite ?_
      | refine XE.cb ?_
      | refine XE.tup ?_
      | refine XE.bl ?_
      | refine XE.non ?_
      | refine XE.ty ?_
      | refine XE.un ?_
      | refine XE.andV ?_
      | refine XE.orV ?_
      | refine XE.notV ?_
      | refine XE.slice ?_
      | refine XE.chain ?_))
  | ((with_reducible refine idE ?_); (with_reducible refine XE.callP ?_ (fun _ => rfl) (dD := []) (fun _ => .nil) ?_); (focus (first | with_reducible exact mo_R | walk_at "mo")))
  | ((with_reducible refine idE ?_); (with_reducible refine XE.methP ?_ (fun _ => rfl) (dD := []) (fun _ => .nil) ?_); (focus (first | with_reducible exact mo_R | walk_at "mo")))
  | ((with_reducible refine idE ?_); (with_reducible refine XE.callT mo_R (fun _ => rfl) (dD := []) (fun _ => .nil) ?_))
  | ((with_reducible refine idE ?_); (with_reducible refine XE.callNP ?_ (fun _ => rfl) ?_); (focus (first | with_reducible exact mo_R | walk_at "mo")))
  | ((with_reducible refine idE ?_); (with_reducible refine XE.callNTP mo_R (fun _ => rfl) ?_))
  | ((with_reducible refine idA ?_); with_reducible first
      | refine XA.nil ?_
      | refine XA.cons ?_)
  | ((with_reducible refine idR ?_); first
      | (with_reducible first
        | refine XR.add_int ?_
        | refine XR.eq_int ?_
        | refine XR.ne_int ?_
        | refine XR.i0 ?_
        | refine XR.subB ?_
        | refine XR.ne_dQ ?_
        | refine XR.eq_dQ ?_
        | refine XR.b0 ?_
        | refine XR.isN ?_
        | refine XR.ntN ?_)
      | refine XR.ix_tup rfl ?_
      | refine XR.ix_lst (by first | exact LsAt.lst | exact LsAt.raw At.hd) rfl ?_)
  | ((with_reducible refine idS ?_); with_reducible first
      | refine XS.seq ?_
      | refine XS.asg ?_
      | refine XS.ret ?_
      | refine XS.ifs ?_
      | refine XS.next ?_
      | refine XS.drop ?_
      | refine XS.par ?_
      | refine XS.par3 ?_)
  | ((with_reducible refine idT ?_); with_reducible first
      | refine XT.tst ?_
      | refine XT.bool ?_
      | refine XT.and ?_
      | refine XT.or ?_
      | refine XT.not ?_)
  | ((with_reducible refine idT ?_); refine XT.yes ?_)
  | ((with_reducible refine idS ?_); refine XS.aug rfl ?_)
  | with_reducible refine ex1 ?_
  | refine pickF rfl ?_
  | refine pickT rfl ?_
  | ((with_reducible refine idO ?_); with_reducible first
      | refine XO.none ?_
      | refine XO.some ?_)
  | ((with_reducible refine idGs ?_); with_reducible first
      | refine XGs.nil ?_
      | refine XGs.cons ?_)
  | ((with_reducible refine idG ?_); with_reducible first
      | refine XG.name (by simp) ?_
      | refine XG.tup rfl ?_)
  | with_reducible refine XC.abs ?_
  | with_reducible refine XU.neg ?_
  | refine ⟨_, _, rfl, ?_⟩
  | refine ⟨_, _, _, rfl, ?_⟩
  | refine ⟨_, rfl, ?_⟩
  | refine ⟨show (_ : Nat) + 1 ≤ 16000000 by simp only [List.length_cons, List.length_nil] <;> decide, ?_⟩
  | refine ⟨show (0 : Nat) ≤ 16000000 by decide, ?_⟩
  | refine ⟨rfl, rfl, rfl, _, (by walk_at "use"), ?_⟩
  | refine ⟨rfl, rfl, rfl, (by walk_at "tab"), _, (by walk_at "use"), ?_⟩
  | refine ⟨rfl, (by walk_at "tab"), _, (by walk_at "use"), ?_⟩
  | refine ⟨_, .ins, rfl, ?_⟩
  | ((refine ⟨rfl, ?_⟩); (with_reducible refine u_is_lessA ?_ ?_ ?_); (focus walk_at "bq"); (focus walk_at "bq"))
  | ((refine ⟨rfl, ?_⟩); (with_reducible refine u_sum_ofA ?_ ?_ ?_); (focus walk_at "bq"); (focus walk_at "bq"))
  | ((refine ⟨rfl, ?_⟩); (with_reducible refine u_rest_ofA ?_ ?_ ?_); (focus walk_at "bq"); (focus walk_at "bq"))
  | ((refine ⟨rfl, ?_⟩); (with_reducible refine u_product_ofA ?_ ?_ ?_); (focus walk_at "bq"); (focus walk_at "bq"))
  | refine ⟨rfl, _, (by walk_at "use"), ?_⟩
  | dsimp only [List.set_cons_zero, List.set_cons_succ]))
local macro_rules | `(tactic| walk_at "sp") => `(tactic| first | refine ⟨[], _, rfl, rfl, ?_⟩ | refine ⟨rfl, ?_⟩)
local macro_rules | `(tactic| walk_at "tab") => `(tactic| first | exact .hd | exact .tl .hd | exact .tl (.tl .hd) | exact .tl (.tl (.tl .hd)))
local macro_rules | `(tactic| walk_at "sp1") => `(tactic| first | refine ⟨[_], _, rfl, rfl, ?_⟩ | refine ⟨rfl, ?_⟩)
local macro_rules | `(tactic| walk_at "sp2") => `(tactic| first | refine ⟨[_, _], _, rfl, rfl, ?_⟩ | refine ⟨rfl, ?_⟩)

local macro_rules | `(tactic| walk_at "mo") => `(tactic| first | exact mo_R | exact mo_crossing_counts _ | exact mo_L_take | exact mo_L_pick)
local macro_rules | `(tactic| walk_at "callD") => `(tactic| (refine XE.call (by walk_at "mo") (fun _ => rfl) (dD := []) (fun _ => .nil) ?_))
local macro_rules | `(tactic| walk_at "use") => `(tactic| (try dsimp only [List.cons_append, List.nil_append, List.append_nil]); first | ((with_reducible apply u_L_sum) <;> first | assumption | walk_at "bq") | ((with_reducible apply u_L_rest) <;> first | assumption | walk_at "bq") | ((with_reducible apply u_L_less) <;> first | assumption | walk_at "bq") | ((with_reducible apply u_L_floor) <;> first | assumption | walk_at "bq") | exact u_L_sum (by walk_at "bq") (by walk_at "bq") | exact u_L_rest (by walk_at "bq") (by walk_at "bq") | exact u_L_less (by walk_at "bq") (by walk_at "bq") | exact u_L_floor (by assumption) (by assumption))
section
variable {P : Program} {w : World} {K : PySem.W.Frag} {mg : Str → Option Value} {base : Heap}
theorem ok_L_time (T : Txt K mg) : FnOk P w K mg base (L2.CX P w) 3 T.L_time.a T.L_time.fd ["draw", "loads"] (spD K 2 (sp_L_time)) := by
  refine fn_okD T.L_time.F sc_L_time rfl fun cdv A outer s H E hr => ?_
  have nd := sc_L_time.nd
  have hu64 := hr.units
  have hu65 := hu65_of hr
  have hu1 := hu_of hr
  refine ⟨_, (pss_cons (ps_set (i := 2) nd rfl (by first | exact Or.inl rfl | exact Or.inr rfl) (pe_ix (ix_K (K := K) rfl) (pe_lc (own := [("name", 4)]) (g := gName 4) (by rfl) nd (pi_keys (pv 1)) (blkOk_by (N := N_L_time) (sc := defScope s_L_time) (by decide +kernel)) (fun _ _ _ _ _ => (pg_name (i := 4) nd rfl (by first | exact Or.inl rfl | exact Or.inr rfl))) (fun _ _ _ _ _ => pts_nil) (fun _ _ _ _ _ => (pe_ix (ix_K (K := K) rfl) (pe_ix (ix_K (K := K) rfl) (pe_dget hu1 (pv 1) (pv 4) (fun _ _ => rfl)) pe_int (fun _ _ => rfl)) pe_int (fun _ _ => rfl)))) pe_int (fun _ _ => rfl)))
      (pss_cons (ps_set (i := 3) nd rfl (by first | exact Or.inl rfl | exact Or.inr rfl) (pe_call (ok_L_pick T) (hr.mono (by decide)) rfl T.L_pick.g T.L_pick.F.kp (b_L_pick T) .nil px0 (pa_cons (pv 0) (pa_cons (pe_lst (pa_cons (pe_tup (pa_cons pe_int (pa_cons pe_int pa_nil))) (pa_cons (pe_tup (pa_cons pe_int (pa_cons pe_int pa_nil))) (pa_cons (pe_tup (pa_cons pe_int (pa_cons pe_int pa_nil))) (pa_cons (pe_tup (pa_cons pe_int (pa_cons pe_int pa_nil))) (pa_cons (pe_tup (pa_cons pe_int (pa_cons pe_int pa_nil))) (pa_cons (pe_tup (pa_cons pe_int (pa_cons pe_int pa_nil))) (pa_cons (pe_tup (pa_cons pe_int (pa_cons (pe_op op_pow pe_int pe_int) pa_nil))) pa_nil)))))))) pa_nil))))
      (pss_one (ps_ret (pe_call (ok_L_sum T) (hr.mono (by decide)) rfl T.L_sum.g T.L_sum.F.kp (b_L_sum T) .nil px0 (pa_cons (pv 2) (pa_cons (pe_call (ok_L_product T) (hr.mono (by decide)) rfl T.L_product.g T.L_product.F.kp (b_L_product T) .nil px0 (pa_cons (pv 3) (pa_cons (pe_tup (pa_cons (pe_call (ok_L_take T) (hr.mono (by decide)) rfl T.L_take.g T.L_take.F.kp (b_L_take T) .nil px0 (pa_cons (pv 0) (pa_cons pe_int pa_nil))) (pa_cons pe_int pa_nil))) pa_nil))) pa_nil))))))), fun ds M kk xx hl h => ?_⟩
  try dsimp only [cxOf]
  obtain ⟨s, l, n, L, b, ns, kf, rfl, hS, hn, hL, bB, hk⟩ := h
  have hlen := hL.len
  walk_at "go"
  refine XE.lc (fun _ => some (dQ b)) (XI.keys ?_)
  walk_at "go"
  rw [List.map_map]
  refine ⟨by rw [List.length_map]; omega, fun x hx => ?_, ?_⟩
  · obtain ⟨nm, hm, hxe⟩ := List.mem_map.mp hx
    have hxe : D.str nm = x := hxe
    subst hxe
    obtain ⟨k0, hk0, e0, _⟩ := (hL.kt nm hm).get0
    have e1 := hL.beg nm hm
    walk_at "go"
    refine XE.dgetG ?_
    walk_at "go"
    refine ⟨_, kN nm, _, .fdct, rfl, val_fun (e := fun m => D.lst ((kf m).map dKn)) hm, ?_⟩
    walk_at "go"
    refine XR.ix_lst .lst (at_nat (z := 0) (j := 0) rfl (DL.get_map hk0)) ?_
    dsimp only [dKn]
    walk_at "go"
    refine ⟨?_, rfl⟩
    rw [← e1, e0]
  obtain ⟨n0, r0, rfl⟩ : ∃ n r, ns = n :: r := List.exists_cons_of_ne_nil hL.ne
  walk_at "go"
  refine XR.ix_lst .lst (at_nat (x := dQ b) (z := 0) (j := 0) rfl rfl) ?_
  walk_at "go"
  walk_at "callD"
  walk_at "go"
  refine XE.lstF ?_
  walk_at "go"
  refine XR.i ⟨by decide, by decide, by decide⟩ ?_
  walk_at "go"
  walk_at "sp"
  refine ⟨s, l, _, _, _, rfl, hS, by omega, .lst, by simp, by simp, fun x M1 hx hS => ?_⟩
  obtain ⟨st, rfl, stB, st0⟩ := pick_st hx
  walk_at "go"
  walk_at "callD"
  walk_at "go"
  walk_at "sp"
  refine ⟨s, l, _, _, rfl, hS, by omega, by decide, (by show Int.natAbs _ < 2 ^ 120; decide), fun r M1 r0 r1 hS => ?_⟩
  walk_at "go"
  have rQ : BQ 10 (r : Rat) := BQ.int (show r.natAbs < 2 ^ 10 by omega) (by decide)
  have mQ : BQ 70 (st * (r : Rat)) := stB.mul rQ
  refine ⟨rfl, _, u_L_product (q := (r : Rat)) (by walk_at "bq") (by walk_at "bq"), ?_⟩
  walk_at "go"
  refine hk _ _ ((bB.add mQ).mono (by decide)) ?_ (hS.more (by omega) (by omega))
  have h1 : (0 : Rat) ≤ (r : Rat) := by
    have : ((0 : Int) : Rat) ≤ (r : Rat) := Rat.intCast_le_intCast.mpr r0
    exact this
  have h2 := Rat.mul_nonneg (Rat.le_of_lt st0) h1
  grind
theorem ok_L_tables (T : Txt K mg) : FnOk P w K mg base (L2.CX P w) 8 T.L_tables.a T.L_tables.fd ["loads"] (spD K 1 (pur ((spR (R_L_tables T.C_Timetable))))) := by
  refine fn_okP T.L_tables.F sc_L_tables rfl fun cdv A outer s H E hr => ?_
  have nd := sc_L_tables.nd
  have hu64 := hr.units
  have hu65 := hu65_of hr
  have hu1 := hu_of hr
  refine ⟨_, (pss_one (ps_ret (pe_frz (pe_callTy (cr_dictP (K := K) rfl (by rfl)) (by rfl) T.m_dict boot_dict (pa_cons (pe_lc (own := [("name", 1)]) (g := gName 1) (by rfl) nd (pi_keys (pv 0)) (blkOk_by (N := N_L_tables) (sc := defScope s_L_tables) (by decide +kernel)) (fun _ _ _ _ _ => (pg_name (i := 1) nd rfl (by first | exact Or.inl rfl | exact Or.inr rfl))) (fun _ _ _ _ _ => pts_nil) (fun _ _ _ _ _ => (pe_tup (pa_cons (pv 1) (pa_cons (pe_make T.mk_Timetable (ok_Timetable_init T) (hr.mono (by decide)) rfl T.g_Timetable (b_Timetable_init T) .nil passL (pa_cons (pe_dget hu1 (pv 0) (pv 1) (fun _ _ => rfl)) pa_nil)) pa_nil))))) pa_nil))))), fun ds kk xx hl h => ?_⟩
  try dsimp only [cxOf]
  obtain ⟨_, ⟨ns, kf, rfl, nd, hl12, hkt, rfl⟩, hk⟩ := h
  walk_at "go"
  refine XE.frz ?_
  walk_at "go"
  refine XE.lc (tabsF T.C_Timetable kf) (XI.keys ?_)
  walk_at "go"
  rw [List.map_map]
  refine ⟨by rw [List.length_map]; omega, fun x hx => ?_, ?_⟩
  · obtain ⟨n, hm, hxe⟩ := List.mem_map.mp hx
    have hxe : D.str n = x := hxe
    subst hxe
    have kt := hkt n hm
    walk_at "go"
    refine XE.make false (mo_Timetable_init _) (fun _ => rfl) (dD := []) (fun _ => .nil) ?_
    walk_at "go"
    refine XE.dgetG ?_
    walk_at "go"
    refine ⟨_, kN n, _, .fdct, rfl, val_fun (e := fun m => D.lst ((kf m).map dKn)) hm, ?_⟩
    walk_at "go"
    intro p hp
    refine ⟨rfl, p, .lst ((kf n).map dKn), kf n, 200, rfl, rfl, .inl rfl, kt.B, by decide, by decide, kt.good, rfl, tabF (kf n), rfl, ?_⟩
    rw [if_neg (by decide), ← dTab_eq]
    walk_at "go"
    exact ⟨rfl, rfl⟩
  walk_at "go"
  have e1 : (ns.map ((fun e : Key × D => keyD e.1) ∘ fun n => (kN n, D.lst ((kf n).map dKn)))).filterMap (tabsF T.C_Timetable kf) = (ns.map fun n => ((kN n, dTab T.C_Timetable (kf n)) : Key × D)).map fun e => D.tup [keyD e.1, e.2] := by
    rw [List.filterMap_map, List.map_map]
    exact congrFun (List.filterMap_eq_map (f := (fun e : Key × D => D.tup [keyD e.1, e.2]) ∘ fun n => ((kN n, dTab T.C_Timetable (kf n)) : Key × D))) ns
  rw [e1]
  refine XC.dictP .lst fun p hp => ?_
  refine ⟨p, _, _, rfl, .hd, ?_⟩
  rw [merge_names nd]
  exact hk
end
end My

namespace My
open PySem L2 DL PyProof.Rows SX
local macro_rules | `(tactic| walk_at "bq") => `(tactic| first | exact BQ.mono (by assumption) (by decide) | exact BQ.mono (BQ.sub (by assumption) (by assumption)) (by decide) | exact BQ.mono (BQ.add (by assumption) (by assumption)) (by decide) | exact BQ.mono (BQ.mul (by assumption) (by assumption)) (by decide))
section
variable {L : Option Int} {b t : Rat} {ns : List Str} {kf : Str → List Kn} {n : Str}
theorem Loads.plain (h : Loads L b ns kf) : Plain L b ns kf := ⟨fun l hl => (h.lok l hl).1, h.nd, fun n hn => (h.kt n hn).asc, fun _ hm _ hn hne => h.two hm hn hne⟩
theorem Loads.spB (h : Loads L b ns kf) (hn : n ∈ ns) : spA L kf b n = spotN L kf n := by
  unfold spA xAt spotN
  rw [h.pos hn]
theorem Loads.flB (h : Loads L b ns kf) (hn : n ∈ ns) : flA L kf b n = floorQ L (firstX (kf n)) := by
  unfold flA xAt
  rw [h.pos hn]
open Classical in
theorem Loads.rho0 (h : Loads L b ns kf) (hn : n ∈ ns) : rkN L ns kf n = (rho L ns kf b n : Int) := by
  unfold rkN cntV rho
  congr 1
  refine List.countP_congr fun m hm => ?_
  rw [decide_eq_true_iff, decide_eq_true_iff]
  by_cases e : m = n
  · subst e
    exact ⟨fun z => absurd z Rat.lt_irrefl, fun z => absurd z (prec_irr _)⟩
  · rw [prec_begin h.plain hm hn e, h.spB hm, h.spB hn]
theorem Loads.grow (h : Loads L b ns kf) (hn : n ∈ ns) : growQ L b ns kf n t = (ns.map (growP L b kf n t)).sum := by
  unfold growQ
  congr 1
  refine List.map_congr_left fun o ho => ?_
  unfold growF growP
  by_cases e : o = n
  · rw [if_pos e, if_pos e]
  · rw [if_neg e, if_neg e, lapsB_begin (h.two hn ho (Ne.symm e))]
/-- the rank of a load -/
def rankQ (L : Option Int) (b : Rat) (ns : List Str) (kf : Str → List Kn) (n : Str) (t : Rat) : Int := rkN L ns kf n + growQ L b ns kf n t
def lapT (L : Option Int) (b : Rat) (ns : List Str) (kf : Str → List Kn) (t : Rat) : Int := (ns.map (flA L kf t)).sum - (ns.map (flA L kf b)).sum
theorem Loads.rank (h : Loads L b ns kf) (hb : b ≤ t) (hn : n ∈ ns) : rankQ L b ns kf n t = rho L ns kf t n + ns.length * (flA L kf t n - flA L kf b n) - lapT L b ns kf t := by
  unfold rankQ lapT
  rw [h.rho0 hn, h.grow hn]
  exact rank_form h.plain hb hn
/-- the carrier of a load -/
def carQ (L : Option Int) (b : Rat) (ns : List Str) (kf : Str → List Kn) (n : Str) (t : Rat) : Int := rankQ L b ns kf n t % (ns.length : Int)
theorem Loads.npos (h : Loads L b ns kf) : 0 < (ns.length : Int) := by
  have := List.length_pos_iff.mpr h.ne
  omega
theorem Loads.car_ge (h : Loads L b ns kf) (n : Str) (t : Rat) : 0 ≤ carQ L b ns kf n t := Int.emod_nonneg _ (by have := h.npos; omega)
theorem Loads.car_lt (h : Loads L b ns kf) (n : Str) (t : Rat) : carQ L b ns kf n t < ns.length := Int.emod_lt_of_pos _ h.npos
theorem Loads.car_mod (h : Loads L b ns kf) (hb : b ≤ t) (hn : n ∈ ns) : ∃ z : Int, carQ L b ns kf n t + lapT L b ns kf t = rho L ns kf t n + ns.length * z ∧ z = flA L kf t n - flA L kf b n - rankQ L b ns kf n t / ns.length := by
  refine ⟨_, ?_, rfl⟩
  have e1 := h.rank hb hn
  have e2 := Int.emod_add_mul_ediv (rankQ L b ns kf n t) ns.length
  unfold carQ
  rw [Int.mul_sub, Int.mul_sub]
  rw [Int.mul_sub] at e1
  omega
theorem small_dvd2 {a d q : Int} (h : d = a * q) (h1 : -a < d) (h2 : d < a) : d = 0 := by
  rcases Int.lt_trichotomy q 0 with hq | hq | hq
  · have := Int.mul_le_mul_of_nonneg_left (show q ≤ -1 by omega) (show (0 : Int) ≤ a by omega)
    omega
  · rw [h, hq, Int.mul_zero]
  · have := Int.mul_le_mul_of_nonneg_left (show 1 ≤ q by omega) (show (0 : Int) ≤ a by omega)
    omega
theorem same_mod {N x y z w : Int} (hx : 0 ≤ x ∧ x < N) (hy : 0 ≤ y ∧ y < N) (h : x + N * z = y + N * w) : x = y ∧ z = w := by
  have e : x - y = N * (w - z) := by rw [Int.mul_sub]; omega
  have e2 := small_dvd2 e (by omega) (by omega)
  refine ⟨by omega, ?_⟩
  rw [e2] at e
  rcases Int.mul_eq_zero.mp e.symm with q | q <;> omega
theorem Loads.car_inj (h : Loads L b ns kf) (hb : b ≤ t) {m : Str} (hm : m ∈ ns) (hn : n ∈ ns) (e : carQ L b ns kf m t = carQ L b ns kf n t) : m = n := by
  obtain ⟨z, z1, _⟩ := h.car_mod hb hm
  obtain ⟨w, w1, _⟩ := h.car_mod hb hn
  have r1 := rho_bound h.plain hb hm
  have r2 := rho_bound h.plain hb hn
  have := (same_mod (N := ns.length) (x := rho L ns kf t m) (y := rho L ns kf t n) (z := z) (w := w) (by omega) (by omega) (by omega)).1
  exact rho_inj h.plain hb hm hn (by omega)
theorem Loads.car_onto (h : Loads L b ns kf) (hb : b ≤ t) {c : Int} (h0 : 0 ≤ c) (h1 : c < ns.length) : ∃ n ∈ ns, carQ L b ns kf n t = c := by
  have hN := h.npos
  have i0 := Int.emod_nonneg (c + lapT L b ns kf t) (show (ns.length : Int) ≠ 0 by omega)
  have i1 := Int.emod_lt_of_pos (c + lapT L b ns kf t) hN
  obtain ⟨n, hn, hr⟩ := rho_onto h.plain hb (i := ((c + lapT L b ns kf t) % ns.length).toNat) (by omega)
  refine ⟨n, hn, ?_⟩
  obtain ⟨z, z1, _⟩ := h.car_mod hb hn
  have e2 := Int.emod_add_mul_ediv (c + lapT L b ns kf t) ns.length
  have g0 := h.car_ge n t
  have g1 := h.car_lt n t
  have e3 : carQ L b ns kf n t + ns.length * (0 - z) = c + ns.length * (0 - (c + lapT L b ns kf t) / ns.length) := by
    rw [Int.mul_sub, Int.mul_sub]
    omega
  exact (same_mod ⟨g0, g1⟩ ⟨h0, h1⟩ e3).1
/-- the place of the carrier of a load -/
def plcQ (L : Option Int) (b : Rat) (ns : List Str) (kf : Str → List Kn) (n : Str) (t : Rat) : Rat := match L with
  | none => posAt (kf n) t
  | some l => posAt (kf n) t - (l : Rat) * ((rankQ L b ns kf n t / ns.length + floorQ L (firstX (kf n)) : Int) : Rat)
theorem Loads.line_rank {b t : Rat} {ns : List Str} {kf : Str → List Kn} {n : Str} (h : Loads none b ns kf) (hb : b ≤ t) (hn : n ∈ ns) : rankQ none b ns kf n t = carQ none b ns kf n t := by
  have e1 := h.rank hb hn
  have z : ∀ (s : Rat) (m : Str), flA none kf s m = 0 := fun _ _ => rfl
  have zT : lapT none b ns kf t = 0 := by
    unfold lapT
    rw [List.map_congr_left (fun m _ => z t m), List.map_congr_left (fun m _ => z b m)]
    omega
  rw [z, z, zT, Int.sub_self, Int.mul_zero] at e1
  have r1 := rho_bound h.plain hb hn
  unfold carQ
  rw [Int.emod_eq_of_lt (by omega) (by omega)]
theorem Ask.rankB (h : Ask L b ns kf n t) : DL.B 222 (rankQ L b ns kf n t) := by
  have hlen := h.hL.len
  have rB : DL.B 200 (rkN L ns kf n) := by
    show ((cntV (spotN L kf) ns n : Nat) : Int).natAbs < 2 ^ 200
    rw [Int.natAbs_natCast]
    exact Nat.lt_of_le_of_lt (Nat.le_trans List.countP_le_length hlen) (by decide)
  exact (rB.add h.growB).mono (by decide)
theorem Ask.plcB (h : Ask L b ns kf n t) : BQ 1830 (plcQ L b ns kf n t) := by
  have bp := (h.hL.kt n h.hm).pos h.ht
  cases L with
  | none => exact bp.mono (by decide)
  | some l =>
    obtain ⟨h1, h2⟩ := h.hL.lok l rfl
    have fB := floorQ_abs (L := some l) (fun l' z => (h.hL.lok l' z).1) (h.hL.fx h.hm)
    have rB := (h.rankB.le (Int.natAbs_ediv_le_natAbs _ (ns.length : Int)))
    exact (bp.sub ((BQ.int h2 (by decide)).mul (BQ.int (rB.add fB) (by decide)))).mono (by decide)
end
def R_need_carrier (C : Addr) (ds : List D) (r : D) : Prop := ∃ ns kf, ∃ c : Int, ds = [dTabs C ns kf, .int c] ∧ ns.length ≤ 12 ∧ 0 ≤ c ∧ c < ns.length ∧ r = .non
def R_carrier_of (C : Addr) (ds : List D) (r : D) : Prop := ∃ L b ns kf n t, ds = [dTabs C ns kf, .str n, .int (rankQ L b ns kf n t), dQ t, dL L] ∧ Ask L b ns kf n t ∧ r = .tup [.int (carQ L b ns kf n t), dQ (plcQ L b ns kf n t)]
def R_load_of (C : Addr) (ds : List D) (r : D) : Prop := ∃ L b ns kf n t, ∃ c : Int, ds = [dTabs C ns kf, .int c, dQ t, dL L] ∧ Ask L b ns kf n t ∧ c = carQ L b ns kf n t ∧ r = .tup [.str n, dQ (plcQ L b ns kf n t)]
def R_rank_of (C : Addr) (ds : List D) (r : D) : Prop := ∃ L b ns kf n t, ds = [dTabs C ns kf, .str n, dQ t, dL L] ∧ Ask L b ns kf n t ∧ r = .int (rankQ L b ns kf n t)
def R_held_at (C : Addr) (ds : List D) (r : D) : Prop := ∃ L b ns kf n t, ∃ c : Int, ds = [dTabs C ns kf, .int c, dQ t, dL L] ∧ Ask L b ns kf n t ∧ c = carQ L b ns kf n t ∧ r = .str n
def R_place_at (C : Addr) (ds : List D) (r : D) : Prop := ∃ L b ns kf n t, ∃ c : Int, ds = [dTabs C ns kf, .int c, dQ t, dL L] ∧ Ask L b ns kf n t ∧ c = carQ L b ns kf n t ∧ r = dQ (plcQ L b ns kf n t)
def R_need_ring (C : Addr) (ds : List D) (r : D) : Prop := ∃ l b ns kf, ds = [dTabs C ns kf, .int l] ∧ Loads (some l) b ns kf ∧ r = .non
def R_moved_by (C : Addr) (ds : List D) (r : D) : Prop := ∃ l b ns kf n m t, ∃ c : Int, ds = [dTabs C ns kf, .int c, dQ t, .int l] ∧ Ask (some l) b ns kf n t ∧ c = carQ (some l) b ns kf n t ∧ m ∈ ns ∧ c = carQ (some l) b ns kf m b ∧ r = dQ (plcQ (some l) b ns kf n t - plcQ (some l) b ns kf m b)
theorem u_need_carrier {C : Addr} {ns : List Str} {kf : Str → List Kn} {c : Int} (h : ns.length ≤ 12) (h0 : 0 ≤ c) (h1 : c < ns.length) : R_need_carrier C [dTabs C ns kf, .int c] .non := ⟨ns, kf, c, rfl, h, h0, h1, rfl⟩
theorem u_carrier_of {C : Addr} {L : Option Int} {b t : Rat} {ns : List Str} {kf : Str → List Kn} {n : Str} (h : Ask L b ns kf n t) : R_carrier_of C [dTabs C ns kf, .str n, .int (rankQ L b ns kf n t), dQ t, dL L] (.tup [.int (carQ L b ns kf n t), dQ (plcQ L b ns kf n t)]) := ⟨L, b, ns, kf, n, t, rfl, h, rfl⟩
theorem u_load_of {C : Addr} {L : Option Int} {b t : Rat} {ns : List Str} {kf : Str → List Kn} {n : Str} {c : Int} (h : Ask L b ns kf n t) (hc : c = carQ L b ns kf n t) : R_load_of C [dTabs C ns kf, .int c, dQ t, dL L] (.tup [.str n, dQ (plcQ L b ns kf n t)]) := ⟨L, b, ns, kf, n, t, c, rfl, h, hc, rfl⟩
theorem u_load_ofR {C : Addr} {l : Int} {b t : Rat} {ns : List Str} {kf : Str → List Kn} {n : Str} {c : Int} (h : Ask (some l) b ns kf n t) (hc : c = carQ (some l) b ns kf n t) : R_load_of C [dTabs C ns kf, .int c, dQ t, .int l] (.tup [.str n, dQ (plcQ (some l) b ns kf n t)]) := u_load_of h hc
theorem u_rank_of {C : Addr} {L : Option Int} {b t : Rat} {ns : List Str} {kf : Str → List Kn} {n : Str} (h : Ask L b ns kf n t) : R_rank_of C [dTabs C ns kf, .str n, dQ t, dL L] (.int (rankQ L b ns kf n t)) := ⟨L, b, ns, kf, n, t, rfl, h, rfl⟩
theorem u_held_at {C : Addr} {L : Option Int} {b t : Rat} {ns : List Str} {kf : Str → List Kn} {n : Str} {c : Int} (h : Ask L b ns kf n t) (hc : c = carQ L b ns kf n t) : R_held_at C [dTabs C ns kf, .int c, dQ t, dL L] (.str n) := ⟨L, b, ns, kf, n, t, c, rfl, h, hc, rfl⟩
theorem u_place_at {C : Addr} {L : Option Int} {b t : Rat} {ns : List Str} {kf : Str → List Kn} {n : Str} {c : Int} (h : Ask L b ns kf n t) (hc : c = carQ L b ns kf n t) : R_place_at C [dTabs C ns kf, .int c, dQ t, dL L] (dQ (plcQ L b ns kf n t)) := ⟨L, b, ns, kf, n, t, c, rfl, h, hc, rfl⟩
theorem u_need_ring {C : Addr} {l : Int} {b : Rat} {ns : List Str} {kf : Str → List Kn} (h : Loads (some l) b ns kf) : R_need_ring C [dTabs C ns kf, .int l] .non := ⟨l, b, ns, kf, rfl, h, rfl⟩
theorem u_moved_by {C : Addr} {l : Int} {b t : Rat} {ns : List Str} {kf : Str → List Kn} {n m : Str} {c : Int} (h : Ask (some l) b ns kf n t) (hc : c = carQ (some l) b ns kf n t) (hm : m ∈ ns) (hd : c = carQ (some l) b ns kf m b) : R_moved_by C [dTabs C ns kf, .int c, dQ t, .int l] (dQ (plcQ (some l) b ns kf n t - plcQ (some l) b ns kf m b)) := ⟨l, b, ns, kf, n, m, t, c, rfl, h, hc, hm, hd, rfl⟩
local macro_rules | `(tactic| walk_at "go") => `(tactic| repeat (first
  | ((with_reducible refine idE ?_); first
    | ((with_reducible apply XE.var); · exact rfl)
    | (with_reducible first
      | refine XE.op ?_
      | refine XE.int ?_
      | refine XE.str ?_
      | refine XE.ite ?_
      | refine XE.cb ?_
      | refine XE.tup ?_
      | refine XE.bl ?_
      | refine XE.non ?_
      | refine XE.ty ?_
      | refine XE.un ?_
      | refine XE.andV ?_
      | refine XE.orV ?_
      | refine XE.notV ?_
      | refine XE.slice ?_
      | refine XE.chain ?_))
  | ((with_reducible refine idE ?_); (with_reducible refine XE.callP ?_ (fun _ => rfl) (dD := []) (fun _ => .nil) ?_); (focus (first | with_reducible exact mo_R | walk_at "mo")))
  | ((with_reducible refine idE ?_); (with_reducible refine XE.methP ?_ (fun _ => rfl) (dD := []) (fun _ => .nil) ?_); (focus (first | with_reducible exact mo_R | walk_at "mo")))
  | ((with_reducible refine idE ?_); (with_reducible refine XE.callT mo_R (fun _ => rfl) (dD := []) (fun _ => .nil) ?_))
  | ((with_reducible refine idE ?_); (with_reducible refine XE.callNP ?_ (fun _ => rfl) ?_); (focus (first | with_reducible exact mo_R | walk_at "mo")))
  | ((with_reducible refine idE ?_); (with_reducible refine XE.callNTP mo_R (fun _ => rfl) ?_))
  | ((with_reducible refine idA ?_); with_reducible first
      | refine XA.nil ?_
      | refine XA.cons ?_)
  | ((with_reducible refine idR ?_); first
      | (with_reducible first
        | refine XR.add_int ?_
        | refine XR.eq_int ?_
        | refine XR.ne_int ?_
        | refine XR.i0 ?_
        | refine XR.subB ?_
        | refine XR.ne_dQ ?_
        | refine XR.eq_dQ ?_
        | refine XR.b0 ?_
        | refine XR.isN ?_
        | refine XR.ntN ?_)
      | refine XR.ix_tup rfl ?_
      | refine XR.ix_lst (by first | exact LsAt.lst | exact LsAt.raw At.hd) rfl ?_)
  | ((with_reducible refine idS ?_); with_reducible first
      | refine XS.seq ?_
      | refine XS.asg ?_
      | refine XS.ret ?_
      | refine XS.ifs ?_
      | refine XS.next ?_
      | refine XS.drop ?_
      | refine XS.par ?_
      | refine XS.par3 ?_)
  | ((with_reducible refine idT ?_); with_reducible first
      | refine XT.tst ?_
      | refine XT.bool ?_
      | refine XT.and ?_
      | refine XT.or ?_
      | refine XT.not ?_)
  | ((with_reducible refine idT ?_); refine XT.yes ?_)
  | ((with_reducible refine idS ?_); refine XS.aug rfl ?_)
  | with_reducible refine ex1 ?_
  | refine pickF rfl ?_
  | refine pickT rfl ?_
  | ((with_reducible refine idO ?_); with_reducible first
      | refine XO.none ?_
      | refine XO.some ?_)
  | ((with_reducible refine idGs ?_); with_reducible first
      | refine XGs.nil ?_
      | refine XGs.cons ?_)
  | ((with_reducible refine idG ?_); with_reducible first
      | refine XG.name (by simp) ?_
      | refine XG.tup rfl ?_)
  | with_reducible refine XC.abs ?_
  | with_reducible refine XU.neg ?_
  | refine ⟨_, _, rfl, ?_⟩
  | refine ⟨_, _, _, rfl, ?_⟩
  | refine ⟨_, rfl, ?_⟩
  | refine ⟨show (_ : Nat) + 1 ≤ 16000000 by simp only [List.length_cons, List.length_nil] <;> decide, ?_⟩
  | refine ⟨show (0 : Nat) ≤ 16000000 by decide, ?_⟩
  | refine ⟨rfl, rfl, rfl, _, (by walk_at "use"), ?_⟩
  | refine ⟨rfl, rfl, rfl, (by walk_at "tab"), _, (by walk_at "use"), ?_⟩
  | refine ⟨rfl, (by walk_at "tab"), _, (by walk_at "use"), ?_⟩
  | refine ⟨_, .ins, rfl, ?_⟩
  | ((refine ⟨rfl, ?_⟩); (with_reducible refine u_is_lessA ?_ ?_ ?_); (focus walk_at "bq"); (focus walk_at "bq"))
  | ((refine ⟨rfl, ?_⟩); (with_reducible refine u_sum_ofA ?_ ?_ ?_); (focus walk_at "bq"); (focus walk_at "bq"))
  | ((refine ⟨rfl, ?_⟩); (with_reducible refine u_rest_ofA ?_ ?_ ?_); (focus walk_at "bq"); (focus walk_at "bq"))
  | ((refine ⟨rfl, ?_⟩); (with_reducible refine u_product_ofA ?_ ?_ ?_); (focus walk_at "bq"); (focus walk_at "bq"))
  | refine ⟨rfl, _, (by walk_at "use"), ?_⟩
  | dsimp only [List.set_cons_zero, List.set_cons_succ]))
local macro_rules | `(tactic| walk_at "sp") => `(tactic| first | refine ⟨[], _, rfl, rfl, ?_⟩ | refine ⟨rfl, ?_⟩)
local macro_rules | `(tactic| walk_at "tab") => `(tactic| first | exact .hd | exact .tl .hd | exact .tl (.tl .hd) | exact .tl (.tl (.tl .hd)))
local macro_rules | `(tactic| walk_at "sp1") => `(tactic| first | refine ⟨[_], _, rfl, rfl, ?_⟩ | refine ⟨rfl, ?_⟩)
local macro_rules | `(tactic| walk_at "sp2") => `(tactic| first | refine ⟨[_, _], _, rfl, rfl, ?_⟩ | refine ⟨rfl, ?_⟩)

local macro_rules | `(tactic| walk_at "mo") => `(tactic| first | exact mo_is_less | exact mo_sum_of | exact mo_rest_of | exact mo_product_of | exact mo_share_of | exact mo_is_whole | exact mo_new_fraction)
local macro_rules | `(tactic| walk_at "use") => `(tactic| (try dsimp only [List.cons_append, List.nil_append, List.append_nil]); first | ((with_reducible apply u_tat) <;> first | assumption | walk_at "bq") | ((with_reducible apply u_need_tables) <;> first | assumption | walk_at "bq") | ((with_reducible apply u_starting_order) <;> first | assumption | walk_at "bq") | ((with_reducible apply u_need_load) <;> first | assumption | walk_at "bq") | ((with_reducible apply u_need_carrier) <;> first | assumption | walk_at "bq") | ((with_reducible apply u_begin_of) <;> first | assumption | walk_at "bq") | ((with_reducible apply u_need_moment) <;> first | assumption | walk_at "bq") | ((with_reducible apply u_growth_of) <;> first | assumption | walk_at "bq") | ((with_reducible apply u_rank_at) <;> first | assumption | walk_at "bq") | ((with_reducible apply u_spot_floor) <;> first | assumption | walk_at "bq") | ((with_reducible apply u_carrier_of) <;> first | assumption | walk_at "bq") | ((with_reducible apply u_load_of) <;> first | assumption | walk_at "bq") | ((with_reducible apply u_load_ofR) <;> first | assumption | walk_at "bq") | ((with_reducible apply u_need_ring) <;> first | assumption | walk_at "bq") | ((with_reducible apply u_moved_by) <;> first | assumption | walk_at "bq") | exact u_tat (by assumption) (by assumption) (by assumption) | exact u_need_tables (by assumption) | exact u_starting_order (by assumption) | exact u_need_load (by assumption) | exact u_need_carrier (by assumption) (by assumption) (by assumption) | exact u_begin_of (by assumption) | exact u_need_moment (by assumption) | exact u_growth_of (by assumption) | exact u_rank_at (by assumption) | exact u_spot_floor (by assumption) (by assumption) | exact u_carrier_of (by assumption) | exact u_load_of (by assumption) (by assumption) | exact u_load_ofR (by assumption) (by assumption) | exact u_need_ring (by assumption) | exact u_moved_by (by assumption) (by assumption) (by assumption) (by assumption))
section
variable {P : Program} {w : World} {K : PySem.W.Frag} {mg : Str → Option Value} {base : Heap}
theorem ok_need_carrier (T : Txt K mg) : FnOk P w K mg base (L2.CX P w) 2 T.need_carrier.a T.need_carrier.fd ["tables", "carrier"] (spD K 2 (pur ((spR (R_need_carrier T.C_Timetable))))) := by
  refine fn_okP T.need_carrier.F sc_need_carrier rfl fun cdv A outer s H E hr => ?_
  have nd := sc_need_carrier.nd
  have hu64 := hr.units
  have hu65 := hu65_of hr
  have hu1 := hu_of hr
  refine ⟨_, (pss_one (ps_if (PW.pt (pw_or (pt_not (pt_val (pe_call (ok_is_whole T) (hr.mono (by decide)) rfl T.is_whole.g T.is_whole.F.kp (b_is_whole T) .nil px0 (pa_cons (pv 1) pa_nil)))) (pw_or1 (pt_not (pt_chain op_le op_lt pe_int (pv 1) (pe_callB (cr_lenG (K := K) rfl) (by rfl) T.m_len boot_len (pa_cons (pv 0) pa_nil)))))))
      (pss_one ps_never)
      pss_nil)), fun ds kk xx hl h => ?_⟩
  try dsimp only [cxOf]
  obtain ⟨_, ⟨ns, kf, c, rfl, hlen, h0, h1, rfl⟩, hk⟩ := h
  walk_at "go"
  refine ⟨rfl, _, rfl, rfl, ?_⟩
  walk_at "go"
  refine pickT (decide_eq_true h0) ?_
  walk_at "go"
  refine XC.lenD .fdct ?_
  rw [List.length_map]
  walk_at "go"
  refine pickF (by rw [decide_eq_true h1]; rfl) ?_
  walk_at "go"
  exact hk
theorem ok_carrier_of (T : Txt K mg) : FnOk P w K mg base (L2.CX P w) 8 T.carrier_of.a T.carrier_of.fd ["tables", "name", "rank", "t", "length"] (spD K 5 (pur ((spR (R_carrier_of T.C_Timetable))))) := by
  refine fn_okP T.carrier_of.F sc_carrier_of rfl fun cdv A outer s H E hr => ?_
  have nd := sc_carrier_of.nd
  have hu64 := hr.units
  have hu65 := hu65_of hr
  have hu1 := hu_of hr
  refine ⟨_, (pss_cons (ps_set (i := 5) nd rfl (by first | exact Or.inl rfl | exact Or.inr rfl) (pe_meth (pe_dget hu1 (pv 0) (pv 1) (fun _ _ => rfl)) T.cl_Timetable T.Timetable_at.me (ok_Timetable_at T) (hr.mono (by decide)) (b_Timetable_at T) .nil px0 (pa_cons (pv 3) pa_nil)))
      (pss_cons (ps_if (pt_cmpR op_isN' (pv 4) pe_non (nomark _))
      (pss_one (ps_ret (pe_tup (pa_cons (pv 2) (pa_cons (pv 5) pa_nil)))))
      pss_nil)
      (pss_cons (ps_set (i := 6) nd rfl (by first | exact Or.inl rfl | exact Or.inr rfl) (pe_op (op_addK (K := K) rfl) (pe_op op_fdivZ (pv 2) (pe_callB (cr_lenG (K := K) rfl) (by rfl) T.m_len boot_len (pa_cons (pv 0) pa_nil))) (pe_call (ok_spot_floor T) (hr.mono (by decide)) rfl T.spot_floor.g T.spot_floor.F.kp (b_spot_floor T) .nil px0 (pa_cons (pv 0) (pa_cons (pv 1) (pa_cons (pv 4) pa_nil))))))
      (pss_one (ps_ret (pe_tup (pa_cons (pe_op op_modN (pv 2) (pe_callB (cr_lenG (K := K) rfl) (by rfl) T.m_len boot_len (pa_cons (pv 0) pa_nil))) (pa_cons (pe_call (ok_rest_of T) (hr.mono (by decide)) rfl T.rest_of.g T.rest_of.F.kp (b_rest_of T) .nil px0 (pa_cons (pv 5) (pa_cons (pe_call (ok_product_of T) (hr.mono (by decide)) rfl T.product_of.g T.product_of.F.kp (b_product_of T) .nil px0 (pa_cons (pe_call (ok_new_fraction T) (hr.mono (by decide)) rfl T.new_fraction.g T.new_fraction.F.kp (bd_new_fraction_1 T).choose_spec.2 (bd_new_fraction_1 T).choose_spec.1 px0 (pa_cons (pv 4) pa_nil)) (pa_cons (pe_call (ok_new_fraction T) (hr.mono (by decide)) rfl T.new_fraction.g T.new_fraction.F.kp (bd_new_fraction_1 T).choose_spec.2 (bd_new_fraction_1 T).choose_spec.1 px0 (pa_cons (pv 6) pa_nil)) pa_nil))) pa_nil))) pa_nil)))))))), fun ds kk xx hl h => ?_⟩
  try dsimp only [cxOf]
  obtain ⟨_, ⟨L, b, ns, kf, n, t, rfl, hA, rfl⟩, hk⟩ := h
  obtain ⟨hL, hm, ht, hb⟩ := id hA
  have hlen := hL.len
  have kt := hL.kt n hm
  have fl : firstT (kf n) ≤ t := by rw [hL.beg n hm]; exact hb
  have bp := kt.pos ht
  walk_at "go"
  refine XE.dgetG ?_
  walk_at "go"
  refine ⟨_, kN n, _, .fdct, rfl, val_fun (e := fun m => dTab T.C_Timetable (kf m)) hm, ?_⟩
  walk_at "go"
  cases L with
  | none =>
    dsimp only [dL]
    walk_at "go"
    rw [hL.line_rank hb hm]
    exact hk
  | some l =>
    obtain ⟨h1, h2⟩ := hL.lok l rfl
    have bi : BQ 200 (l : Rat) := BQ.int h2 (by decide)
    have fB := floorQ_abs (L := some l) (fun l' z => (hL.lok l' z).1) (hL.fx hm)
    have rB := (hA.rankB.le (Int.natAbs_ediv_le_natAbs _ (ns.length : Int)))
    have wB : BQ 223 ((rankQ (some l) b ns kf n t / ns.length + floorQ (some l) (firstX (kf n)) : Int) : Rat) := BQ.int (rB.add fB) (by decide)
    have lB : DL.B 200 (ns.length : Int) := by
      show (ns.length : Int).natAbs < 2 ^ 200
      rw [Int.natAbs_natCast]
      exact Nat.lt_of_le_of_lt hlen (by decide)
    have npos := hL.npos
    dsimp only [dL]
    walk_at "go"
    refine XC.lenD .fdct ?_
    rw [List.length_map]
    walk_at "go"
    refine XR.i (lB.divOk (by omega) (by decide) (by decide)) ?_
    rw [Int.fdiv_eq_ediv_of_nonneg _ (by omega)]
    walk_at "go"
    refine XC.lenD .fdct ?_
    rw [List.length_map]
    walk_at "go"
    refine XR.i (by omega) ?_
    rw [Int.fmod_eq_emod_of_nonneg _ (by omega)]
    walk_at "go"
    refine XE.callP mo_new_fraction (fun _ => rfl) (dD := [.int 1]) (fun _ => .cons (.int _) .nil) ?_
    walk_at "go"
    refine ⟨rfl, l, 1, 1, rfl, by decide, DL.B.one (by decide), by decide, by decide, ?_⟩
    rw [new1]
    walk_at "go"
    refine XE.callP mo_new_fraction (fun _ => rfl) (dD := [.int 1]) (fun _ => .cons (.int _) .nil) ?_
    walk_at "go"
    refine ⟨rfl, rankQ (some l) b ns kf n t / ns.length + floorQ (some l) (firstX (kf n)), 1, 1, rfl, by decide, DL.B.one (by decide), by decide, by decide, ?_⟩
    rw [new1]
    walk_at "go"
    exact hk
theorem ok_load_of (T : Txt K mg) (B : Tbs T base) : FnOk P w K mg base (L2.CX P w) 12 T.load_of.a T.load_of.fd ["tables", "carrier", "t", "length"] (spD K 4 (purT T.P_ordered qlam ((spR (R_load_of T.C_Timetable))))) := by
  refine fn_okPT T.load_of.F rfl sc_load_of rfl fun A outer s H E hr => ?_
  have nd := sc_load_of.nd
  have hu64 := hr.units
  have hu65 := hu65_of hr
  have hu1 := hu_of hr
  refine ⟨_, (pss_cons (ps_for (passes_of rfl) rfl (pi_enumK (K := K) rfl (by rfl) T.m_enumerate (pa_cons (pe_call (ok_starting_order T B) (hr.mono (by decide)) rfl T.starting_order.g T.starting_order.F.kp (b_starting_order T) .nil px0 (pa_cons (pv 0) (pa_cons (pv 3) pa_nil))) pa_nil)) (pg_tupK (K := K) (n := 2) rfl rfl (pgs_cons (pg_name (i := 4) nd rfl (by first | exact Or.inl rfl | exact Or.inr rfl)) (pgs_cons (pg_name (i := 5) nd rfl (by first | exact Or.inl rfl | exact Or.inr rfl)) pgs_nil)))
      (pss_cons (ps_asg (pe_call (ok_carrier_of T) (hr.mono (by decide)) rfl T.carrier_of.g T.carrier_of.F.kp (b_carrier_of T) .nil px0 (pa_cons (pv 0) (pa_cons (pv 5) (pa_cons (pe_op (op_addK (K := K) rfl) (pv 4) (pe_call (ok_growth_of T) (hr.mono (by decide)) rfl T.growth_of.g T.growth_of.F.kp (b_growth_of T) .nil px0 (pa_cons (pv 0) (pa_cons (pv 5) (pa_cons (pv 2) (pa_cons (pv 3) pa_nil)))))) (pa_cons (pv 2) (pa_cons (pv 3) pa_nil)))))) (pg_tupK (K := K) (n := 2) rfl rfl (pgs_cons (pg_name (i := 6) nd rfl (by first | exact Or.inl rfl | exact Or.inr rfl)) (pgs_cons (pg_name (i := 7) nd rfl (by first | exact Or.inl rfl | exact Or.inr rfl)) pgs_nil))))
      (pss_one (ps_if (pt_cmpR (op_eqK (K := K) rfl hu64) (pv 6) (pv 1) (nomark _))
      (pss_one (ps_ret (pe_tup (pa_cons (pv 5) (pa_cons (pv 7) pa_nil)))))
      pss_nil))))
      (pss_one (ps_ret pe_non))), fun ds kk xx hl h => ?_⟩
  try dsimp only [cxOf]
  obtain ⟨_, ⟨L, b, ns, kf, n, t, c, rfl, hA, hc, rfl⟩, hk⟩ := h
  obtain ⟨hL, hm, ht, hb⟩ := id hA
  have hlen := hL.len
  obtain ⟨os, hos⟩ : ∃ os, os = byRank (rkN L ns kf) ns := ⟨_, rfl⟩
  have hp : os.Perm ns := by rw [hos]; exact byRank_perm _ _
  have hget : ∀ m ∈ ns, os[cntV (spotN L kf) ns m]? = some m := fun m hm2 => by
    rw [hos]
    exact byRank_get hL.nd hL.inj (rk := rkN L ns kf) (fun a _ => rfl) hm2
  have nd2 : os.Nodup := hp.nodup_iff.mpr hL.nd
  walk_at "go"
  refine XS.for [4, 5] (XI.enum ?_)
  walk_at "go"
  refine ⟨dOrd L ns kf, os.map D.str, rfl, .inl (by rw [hos]), fun i ds M => (∃ a1 a2 a3 a4 : Option D, ds = [some (dTabs T.C_Timetable ns kf), some (.int c), some (dQ t), some (dL L), a1, a2, a3, a4]) ∧ M = tabM T.P_ordered qlam ∧ ∀ j m, j < i → os[j]? = some m → m ≠ n, ⟨⟨_, _, _, _, rfl⟩, rfl, fun j m hj => absurd hj (Nat.not_lt_zero _)⟩, ?_, ?_⟩
  · rintro i x _ M hx ⟨⟨a1, a2, a3, a4, rfl⟩, rfl, hI⟩
    obtain ⟨d, hd, rfl⟩ := enumD_get hx
    obtain ⟨o, ho, rfl⟩ := map_get hd
    have hmo : o ∈ ns := hp.mem_iff.mp (List.mem_of_getElem? ho)
    have ei : (i : Int) = rkN L ns kf o := by
      have g := hget o hmo
      obtain ⟨b1, d1⟩ := List.getElem?_eq_some_iff.mp ho
      obtain ⟨b2, d2⟩ := List.getElem?_eq_some_iff.mp g
      show (i : Int) = (cntV (spotN L kf) ns o : Nat)
      rcases Nat.lt_trichotomy i (cntV (spotN L kf) ns o) with q | q | q
      · exact absurd (d1.trans d2.symm) (List.pairwise_iff_getElem.mp nd2 _ _ b1 b2 q)
      · rw [q]
      · exact absurd (d2.trans d1.symm) (List.pairwise_iff_getElem.mp nd2 _ _ b2 b1 q)
    have hAo : Ask L b ns kf o t := ⟨hL, hmo, ht, hb⟩
    walk_at "go"
    refine XS.asgG [6, 7] ?_
    walk_at "go"
    rw [ei, show rkN L ns kf o + growQ L b ns kf o t = rankQ L b ns kf o t from rfl]
    walk_at "go"
    refine ⟨fun hb1 => ?_, fun hb1 => ?_⟩
    · have hb1 := of_decide_eq_true hb1
      have e : o = n := hL.car_inj hb hmo hm (by rw [hb1]; exact hc)
      subst e
      walk_at "go"
      exact ⟨⟨[], rfl⟩, hk⟩
    · have hb1 := of_decide_eq_false hb1
      walk_at "go"
      refine ⟨⟨_, _, _, _, rfl⟩, rfl, fun j m hj hjm => ?_⟩
      by_cases e : j = i
      · subst e
        rw [ho] at hjm
        cases hjm
        intro z
        subst z
        exact hb1 hc.symm
      · exact hI j m (by omega) hjm
  · rintro _ M ⟨⟨a1, a2, a3, a4, rfl⟩, rfl, hI⟩
    exfalso
    obtain ⟨j, hj⟩ := List.getElem?_of_mem (hp.mem_iff.mpr hm)
    exact hI j n (by rw [enumD_len, List.length_map]; exact (List.getElem?_eq_some_iff.mp hj).1) hj rfl
theorem ok_rank_of (T : Txt K mg) (B : Tbs T base) : FnOk P w K mg base (L2.CX P w) 13 T.rank_of.a T.rank_of.fd ["tables", "name", "t", "length"] (spD K 4 (purT T.P_ordered qlam ((spR (R_rank_of T.C_Timetable))))) := by
  refine fn_okPT T.rank_of.F rfl sc_rank_of rfl fun A outer s H E hr => ?_
  have nd := sc_rank_of.nd
  have hu64 := hr.units
  have hu65 := hu65_of hr
  have hu1 := hu_of hr
  refine ⟨_, (pss_cons (ps_expr (pe_call (ok_need_tables T) (hr.mono (by decide)) rfl T.need_tables.g T.need_tables.F.kp (b_need_tables T) .nil px0 (pa_cons (pv 0) (pa_cons (pv 3) pa_nil))))
      (pss_cons (ps_expr (pe_call (ok_need_load T) (hr.mono (by decide)) rfl T.need_load.g T.need_load.F.kp (b_need_load T) .nil px0 (pa_cons (pv 0) (pa_cons (pv 1) pa_nil))))
      (pss_cons (ps_expr (pe_call (ok_need_moment T) (hr.mono (by decide)) rfl T.need_moment.g T.need_moment.F.kp (b_need_moment T) .nil px0 (pa_cons (pv 0) (pa_cons (pv 2) pa_nil))))
      (pss_one (ps_ret (pe_call (ok_rank_at T B) (hr.mono (by decide)) rfl T.rank_at.g T.rank_at.F.kp (b_rank_at T) .nil px0 (pa_cons (pv 0) (pa_cons (pv 1) (pa_cons (pv 2) (pa_cons (pv 3) pa_nil)))))))))), fun ds kk xx hl h => ?_⟩
  try dsimp only [cxOf]
  obtain ⟨_, ⟨L, b, ns, kf, n, t, rfl, hA, rfl⟩, hk⟩ := h
  obtain ⟨hL, hm, ht, hb⟩ := id hA
  walk_at "go"
  exact ⟨⟨[], rfl⟩, hk⟩
theorem ok_held_at (T : Txt K mg) (B : Tbs T base) : FnOk P w K mg base (L2.CX P w) 13 T.held_at.a T.held_at.fd ["tables", "carrier", "t", "length"] (spD K 4 (purT T.P_ordered qlam ((spR (R_held_at T.C_Timetable))))) := by
  refine fn_okPT T.held_at.F rfl sc_held_at rfl fun A outer s H E hr => ?_
  have nd := sc_held_at.nd
  have hu64 := hr.units
  have hu65 := hu65_of hr
  have hu1 := hu_of hr
  refine ⟨_, (pss_cons (ps_expr (pe_call (ok_need_tables T) (hr.mono (by decide)) rfl T.need_tables.g T.need_tables.F.kp (b_need_tables T) .nil px0 (pa_cons (pv 0) (pa_cons (pv 3) pa_nil))))
      (pss_cons (ps_expr (pe_call (ok_need_carrier T) (hr.mono (by decide)) rfl T.need_carrier.g T.need_carrier.F.kp (b_need_carrier T) .nil px0 (pa_cons (pv 0) (pa_cons (pv 1) pa_nil))))
      (pss_cons (ps_expr (pe_call (ok_need_moment T) (hr.mono (by decide)) rfl T.need_moment.g T.need_moment.F.kp (b_need_moment T) .nil px0 (pa_cons (pv 0) (pa_cons (pv 2) pa_nil))))
      (pss_one (ps_ret (pe_ix (ix_K (K := K) rfl) (pe_call (ok_load_of T B) (hr.mono (by decide)) rfl T.load_of.g T.load_of.F.kp (b_load_of T) .nil px0 (pa_cons (pv 0) (pa_cons (pv 1) (pa_cons (pv 2) (pa_cons (pv 3) pa_nil))))) pe_int (fun _ _ => rfl))))))), fun ds kk xx hl h => ?_⟩
  try dsimp only [cxOf]
  obtain ⟨_, ⟨L, b, ns, kf, n, t, c, rfl, hA, hc, rfl⟩, hk⟩ := h
  obtain ⟨hL, hm, ht, hb⟩ := id hA
  have hlen := hL.len
  have h0 : 0 ≤ c := by rw [hc]; exact hL.car_ge n t
  have h1 : c < ns.length := by rw [hc]; exact hL.car_lt n t
  walk_at "go"
  exact ⟨⟨[], rfl⟩, hk⟩
theorem ok_place_at (T : Txt K mg) (B : Tbs T base) : FnOk P w K mg base (L2.CX P w) 13 T.place_at.a T.place_at.fd ["tables", "carrier", "t", "length"] (spD K 4 (purT T.P_ordered qlam ((spR (R_place_at T.C_Timetable))))) := by
  refine fn_okPT T.place_at.F rfl sc_place_at rfl fun A outer s H E hr => ?_
  have nd := sc_place_at.nd
  have hu64 := hr.units
  have hu65 := hu65_of hr
  have hu1 := hu_of hr
  refine ⟨_, (pss_cons (ps_expr (pe_call (ok_need_tables T) (hr.mono (by decide)) rfl T.need_tables.g T.need_tables.F.kp (b_need_tables T) .nil px0 (pa_cons (pv 0) (pa_cons (pv 3) pa_nil))))
      (pss_cons (ps_expr (pe_call (ok_need_carrier T) (hr.mono (by decide)) rfl T.need_carrier.g T.need_carrier.F.kp (b_need_carrier T) .nil px0 (pa_cons (pv 0) (pa_cons (pv 1) pa_nil))))
      (pss_cons (ps_expr (pe_call (ok_need_moment T) (hr.mono (by decide)) rfl T.need_moment.g T.need_moment.F.kp (b_need_moment T) .nil px0 (pa_cons (pv 0) (pa_cons (pv 2) pa_nil))))
      (pss_one (ps_ret (pe_ix (ix_K (K := K) rfl) (pe_call (ok_load_of T B) (hr.mono (by decide)) rfl T.load_of.g T.load_of.F.kp (b_load_of T) .nil px0 (pa_cons (pv 0) (pa_cons (pv 1) (pa_cons (pv 2) (pa_cons (pv 3) pa_nil))))) pe_int (fun _ _ => rfl))))))), fun ds kk xx hl h => ?_⟩
  try dsimp only [cxOf]
  obtain ⟨_, ⟨L, b, ns, kf, n, t, c, rfl, hA, hc, rfl⟩, hk⟩ := h
  obtain ⟨hL, hm, ht, hb⟩ := id hA
  have hlen := hL.len
  have h0 : 0 ≤ c := by rw [hc]; exact hL.car_ge n t
  have h1 : c < ns.length := by rw [hc]; exact hL.car_lt n t
  walk_at "go"
  exact ⟨⟨[], rfl⟩, hk⟩
theorem ok_need_ring (T : Txt K mg) : FnOk P w K mg base (L2.CX P w) 8 T.need_ring.a T.need_ring.fd ["tables", "length"] (spD K 2 (pur ((spR (R_need_ring T.C_Timetable))))) := by
  refine fn_okP T.need_ring.F sc_need_ring rfl fun cdv A outer s H E hr => ?_
  have nd := sc_need_ring.nd
  have hu64 := hr.units
  have hu65 := hu65_of hr
  have hu1 := hu_of hr
  refine ⟨_, (pss_cons (ps_if (pt_cmpR op_isN' (pv 1) pe_non (nomark _))
      (pss_one ps_never)
      pss_nil)
      (pss_one (ps_expr (pe_call (ok_need_tables T) (hr.mono (by decide)) rfl T.need_tables.g T.need_tables.F.kp (b_need_tables T) .nil px0 (pa_cons (pv 0) (pa_cons (pv 1) pa_nil)))))), fun ds kk xx hl h => ?_⟩
  try dsimp only [cxOf]
  obtain ⟨_, ⟨l, b, ns, kf, rfl, hL, rfl⟩, hk⟩ := h
  walk_at "go"
  exact hk
theorem ok_moved_by (T : Txt K mg) (B : Tbs T base) : FnOk P w K mg base (L2.CX P w) 13 T.moved_by.a T.moved_by.fd ["tables", "carrier", "t", "length"] (spD K 4 (purT T.P_ordered qlam ((spR (R_moved_by T.C_Timetable))))) := by
  refine fn_okPT T.moved_by.F rfl sc_moved_by rfl fun A outer s H E hr => ?_
  have nd := sc_moved_by.nd
  have hu64 := hr.units
  have hu65 := hu65_of hr
  have hu1 := hu_of hr
  refine ⟨_, (pss_cons (ps_set (i := 4) nd rfl (by first | exact Or.inl rfl | exact Or.inr rfl) (pe_ix (ix_K (K := K) rfl) (pe_call (ok_load_of T B) (hr.mono (by decide)) rfl T.load_of.g T.load_of.F.kp (b_load_of T) .nil px0 (pa_cons (pv 0) (pa_cons (pv 1) (pa_cons (pv 2) (pa_cons (pv 3) pa_nil))))) pe_int (fun _ _ => rfl)))
      (pss_one (ps_ret (pe_call (ok_rest_of T) (hr.mono (by decide)) rfl T.rest_of.g T.rest_of.F.kp (b_rest_of T) .nil px0 (pa_cons (pv 4) (pa_cons (pe_ix (ix_K (K := K) rfl) (pe_call (ok_load_of T B) (hr.mono (by decide)) rfl T.load_of.g T.load_of.F.kp (b_load_of T) .nil px0 (pa_cons (pv 0) (pa_cons (pv 1) (pa_cons (pe_call (ok_begin_of T) (hr.mono (by decide)) rfl T.begin_of.g T.begin_of.F.kp (b_begin_of T) .nil px0 (pa_cons (pv 0) pa_nil)) (pa_cons (pv 3) pa_nil))))) pe_int (fun _ _ => rfl)) pa_nil)))))), fun ds kk xx hl h => ?_⟩
  try dsimp only [cxOf]
  obtain ⟨_, ⟨l, b, ns, kf, n, m, t, c, rfl, hA, hc, hm2, hd, rfl⟩, hk⟩ := h
  obtain ⟨hL, hm, ht, hb⟩ := id hA
  have hA2 : Ask (some l) b ns kf m b := ⟨hL, hm2, hL.bb, Rat.le_refl⟩
  have p1 := hA.plcB
  have p2 := hA2.plcB
  walk_at "go"
  exact ⟨⟨[], rfl⟩, hk⟩
theorem ok_displaced (T : Txt K mg) (B : Tbs T base) : FnOk P w K mg base (L2.CX P w) 14 T.displaced.a T.displaced.fd ["tables", "carrier", "t", "length"] (spD K 4 (purT T.P_ordered qlam ((spR (R_moved_by T.C_Timetable))))) := by
  refine fn_okPT T.displaced.F rfl sc_displaced rfl fun A outer s H E hr => ?_
  have nd := sc_displaced.nd
  have hu64 := hr.units
  have hu65 := hu65_of hr
  have hu1 := hu_of hr
  refine ⟨_, (pss_cons (ps_expr (pe_call (ok_need_ring T) (hr.mono (by decide)) rfl T.need_ring.g T.need_ring.F.kp (b_need_ring T) .nil px0 (pa_cons (pv 0) (pa_cons (pv 3) pa_nil))))
      (pss_cons (ps_expr (pe_call (ok_need_carrier T) (hr.mono (by decide)) rfl T.need_carrier.g T.need_carrier.F.kp (b_need_carrier T) .nil px0 (pa_cons (pv 0) (pa_cons (pv 1) pa_nil))))
      (pss_cons (ps_expr (pe_call (ok_need_moment T) (hr.mono (by decide)) rfl T.need_moment.g T.need_moment.F.kp (b_need_moment T) .nil px0 (pa_cons (pv 0) (pa_cons (pv 2) pa_nil))))
      (pss_one (ps_ret (pe_call (ok_moved_by T B) (hr.mono (by decide)) rfl T.moved_by.g T.moved_by.F.kp (b_moved_by T) .nil px0 (pa_cons (pv 0) (pa_cons (pv 1) (pa_cons (pv 2) (pa_cons (pv 3) pa_nil)))))))))), fun ds kk xx hl h => ?_⟩
  try dsimp only [cxOf]
  obtain ⟨_, ⟨l, b, ns, kf, n, m, t, c, rfl, hA, hc, hm2, hd, rfl⟩, hk⟩ := h
  obtain ⟨hL, hm, ht, hb⟩ := id hA
  have hlen := hL.len
  have h0 : 0 ≤ c := by rw [hc]; exact hL.car_ge n t
  have h1 : c < ns.length := by rw [hc]; exact hL.car_lt n t
  walk_at "go"
  exact ⟨rfl, .hd, _, u_moved_by hA hc hm2 hd, ⟨[], rfl⟩, hk⟩
end
end My

namespace My
open PySem L2 DL PyProof.Rows SX
local macro_rules | `(tactic| walk_at "bq") => `(tactic| first | exact BQ.mono (by assumption) (by decide) | exact BQ.mono (BQ.sub (by assumption) (by assumption)) (by decide) | exact BQ.mono (BQ.add (by assumption) (by assumption)) (by decide) | exact BQ.mono (BQ.mul (by assumption) (by assumption)) (by decide))
def Srt (xs : List Rat) : Prop := xs.Pairwise fun a b => a ≤ b
def spl_L_ascending : PSp := fun ds k _ => ∃ xs : List Rat, ds = [.lst (xs.map dQ)] ∧ xs.length ≤ 100 ∧ (∀ x ∈ xs, BQ 4000 x) ∧ ∀ ys : List Rat, ys.Perm xs → Srt ys → k (.lst (ys.map dQ))
theorem mo_L_ascending : MonoP spl_L_ascending := fun _ _ _ _ _ hk _ ⟨xs, e, h1, h2, q⟩ => ⟨xs, e, h1, h2, fun ys a b => hk _ (q ys a b)⟩
/-- a place in a sorted list for one more -/
theorem srt_insert {ys : List Rat} {x : Rat} {a : Nat} (hs : Srt ys) (hl : a ≤ ys.length) (h1 : ∀ j y, a ≤ j → ys[j]? = some y → x < y) (h2 : ∀ j y, j + 1 = a → ys[j]? = some y → ¬ x < y) : Srt (ys.take a ++ [x] ++ ys.drop a) := by
  have lo : ∀ y ∈ ys.take a, y ≤ x := fun y hy => by
    obtain ⟨j, hj⟩ := List.getElem?_of_mem hy
    have hja : j < a := by
      have := (List.getElem?_eq_some_iff.mp hj).1
      rw [List.length_take] at this
      omega
    rw [List.getElem?_take_of_lt hja] at hj
    obtain ⟨z, hz⟩ : ∃ z, ys[a - 1]? = some z := ⟨_, List.getElem?_eq_getElem (by omega)⟩
    have g := h2 (a - 1) z (by omega) hz
    obtain ⟨b1, d1⟩ := List.getElem?_eq_some_iff.mp hj
    obtain ⟨b2, d2⟩ := List.getElem?_eq_some_iff.mp hz
    have hle : y ≤ z := by
      by_cases e : j = a - 1
      · subst e
        rw [hj] at hz
        cases hz
        exact Rat.le_refl
      · have := List.pairwise_iff_getElem.mp hs j (a - 1) b1 b2 (by omega)
        rwa [d1, d2] at this
    grind
  have hi : ∀ y ∈ ys.drop a, x < y := fun y hy => by
    obtain ⟨j, hj⟩ := List.getElem?_of_mem hy
    rw [List.getElem?_drop] at hj
    exact h1 _ y (by omega) hj
  unfold Srt
  rw [List.pairwise_append, List.pairwise_append]
  refine ⟨⟨hs.sublist (List.take_sublist _ _), List.pairwise_singleton _ _, fun p hp q hq => ?_⟩, hs.sublist (List.drop_sublist _ _), fun p hp q hq => ?_⟩
  · rw [List.mem_singleton.mp hq]
    exact lo p hp
  · rcases List.mem_append.mp hp with hp | hp
    · have := lo p hp
      have := hi q hq
      grind
    · rw [List.mem_singleton.mp hp]
      exact Rat.le_of_lt (hi q hq)
theorem ins_perm {ys : List Rat} {x : Rat} {a : Nat} : (ys.take a ++ [x] ++ ys.drop a).Perm (ys ++ [x]) := by
  rw [List.append_assoc]
  have h : ([x] ++ ys.drop a).Perm (ys.drop a ++ [x]) := List.perm_append_comm
  have := h.append_left (ys.take a)
  rw [← List.append_assoc, ← List.append_assoc, List.take_append_drop] at this
  rw [← List.append_assoc]
  exact this
/-- the k-th place of the copies in a row -/
def ringQ (l : Int) (ys : List Rat) (T N : Int) (k : Nat) : Rat := ys.getD ((T + k) % N).toNat 0 + (((T + k) / N * l : Int) : Rat)
section
variable {b t : Rat} {ns : List Str} {kf : Str → List Kn}
theorem places_line (hL : Loads none b ns kf) (hb : b ≤ t) {ys : List Rat} (hp : ys.Perm (ns.map (xAt kf t))) (hs : Srt ys) {n : Str} (hn : n ∈ ns) : ys[(carQ none b ns kf n t).toNat]? = some (plcQ none b ns kf n t) := by
  have g := sorted_rho (L := none) hL.plain hb (xs := ys) hp hs hn
  have e1 := hL.rank hb hn
  have z : ∀ (s : Rat) (m : Str), flA none kf s m = 0 := fun _ _ => rfl
  have zT : lapT none b ns kf t = 0 := by
    unfold lapT
    rw [List.map_congr_left (fun m _ => z t m), List.map_congr_left (fun m _ => z b m)]
    omega
  rw [z, z, zT, Int.sub_self, Int.mul_zero] at e1
  have e2 : (carQ none b ns kf n t).toNat = rho none ns kf t n := by
    rw [← hL.line_rank hb hn]
    omega
  rw [e2]
  exact g
theorem places_ring {l : Int} (hL : Loads (some l) b ns kf) (hb : b ≤ t) {ys : List Rat} (hp : ys.Perm (ns.map (spA (some l) kf t))) (hs : Srt ys) {n : Str} (hn : n ∈ ns) : ringQ l ys (lapT (some l) b ns kf t) ns.length (carQ (some l) b ns kf n t).toNat = plcQ (some l) b ns kf n t := by
  have g := sorted_rho (L := some l) hL.plain hb (xs := ys) hp hs hn
  obtain ⟨z, z1, z2⟩ := hL.car_mod hb hn
  have c0 := hL.car_ge n t
  have r1 := rho_bound hL.plain hb hn
  have hN := hL.npos
  have em := Int.emod_add_mul_ediv (lapT (some l) b ns kf t + carQ (some l) b ns kf n t) ns.length
  obtain ⟨m1, m2⟩ := same_mod (N := ns.length) (x := (lapT (some l) b ns kf t + carQ (some l) b ns kf n t) % ns.length) (y := rho (some l) ns kf t n) (z := (lapT (some l) b ns kf t + carQ (some l) b ns kf n t) / ns.length) (w := z) ⟨Int.emod_nonneg _ (by omega), Int.emod_lt_of_pos _ hN⟩ (by omega) (by omega)
  have ec : ((carQ (some l) b ns kf n t).toNat : Int) = carQ (some l) b ns kf n t := by omega
  have sf := spot_floor (some l) (xAt kf t n)
  dsimp only at sf
  unfold ringQ plcQ
  dsimp only
  rw [ec, m1, m2, z2, hL.flB hn, List.getD_eq_getElem?_getD, show ((rho (some l) ns kf t n : Nat) : Int).toNat = rho (some l) ns kf t n by omega, g]
  show spA (some l) kf t n + _ = _
  rw [Rat.intCast_mul, Rat.intCast_sub, Rat.intCast_sub, Rat.intCast_add]
  unfold spA flA
  show spotQ (some l) (xAt kf t n) + _ = xAt kf t n - _
  grind
theorem lap_eq {L : Option Int} (hL : Loads L b ns kf) : lapT L b ns kf t = (ns.map fun n => floorQ L (xAt kf t n)).sum - (ns.map fun n => floorQ L (firstX (kf n))).sum := by
  unfold lapT
  rw [List.map_congr_left (fun n hn => hL.flB hn)]
  rfl
theorem xB {L : Option Int} (hL : Loads L b ns kf) (ht : BQ 200 t) {n : Str} (hn : n ∈ ns) : BQ 1404 (xAt kf t n) := (hL.kt n hn).pos ht
theorem flB2 {L : Option Int} (hL : Loads L b ns kf) (hb : b ≤ t) {n : Str} (hn : n ∈ ns) : DL.B 202 (floorQ L (xAt kf t n)) := by
  obtain ⟨m, hm⟩ : ∃ m : Int, m = 2 ^ 200 := ⟨_, rfl⟩
  have kt := hL.kt n hn
  obtain ⟨h1, h2⟩ := posAt_abs kt.asc kt.ne kt.B (by rw [hL.beg n hn]; exact hb) hm
  cases L with
  | none => exact DL.B.zero
  | some l =>
    exact (DL.B.of_le (floor_abs (hL.lok l rfl).1 (by rw [hm]; exact Int.le_of_lt (Int.pow_pos (by decide))) h1 h2) hm).mono (by decide)
theorem lapB {L : Option Int} (hL : Loads L b ns kf) (hb : b ≤ t) : DL.B 220 (lapT L b ns kf t) := by
  have hlen := hL.len
  unfold lapT
  exact ((sum_B (n := 202) _ ns fun n hn => flB2 hL hb hn).sub (sum_B (n := 202) _ ns fun n hn => flB2 hL Rat.le_refl hn)).mono (by omega)
end
/-- a load with more knots -/
structure Lng (b : Rat) (k0 ks : List Kn) (tl : Rat) (z : Nat) : Prop where
  kt : Kt ks
  beg : firstT ks = b
  fx : firstX ks = firstX k0
  last : ∃ k, ks[ks.length - 1]? = some k ∧ k.1 = tl + ((z : Int) : Rat) / 6
def sp_L_longer : DSp := fun ds M k _ => ∃ (s l : Addr) (n : Nat) (L : Option Int) (b : Rat) (ns : List Str) (kf : Str → List Kn), ds = [.raw s, dLds ns kf] ∧ IsA s l n M ∧ n + 200 ≤ 1000000000 ∧ Loads L b ns kf ∧ (∀ n ∈ ns, ∀ k ∈ kf n, BQ 110 k.1) ∧ ∀ (kf' : Str → List Kn) M', Loads L b ns kf' → IsA s l (n + 200) M' → k (dLds ns kf') M'
theorem mo_L_longer : MonoD sp_L_longer := fun _ _ _ _ _ _ hk _ ⟨s, l, n, L, b, ns, kf, e, e2, h1, h2, h3, q⟩ => ⟨s, l, n, L, b, ns, kf, e, e2, h1, h2, h3, fun r M' a b => hk _ _ (q r M' a b)⟩
def sp_L_pick2 : DSp := fun ds M k _ => ∃ (s l : Addr) (n : Nat) (p : Addr) (xs : List D) (Mx M' : Mem), ds = [.raw s, .raw p] ∧ M = (p, .lst xs) :: Mx ++ M' ∧ IsA s l n M' ∧ n + 1 ≤ 1000000000 ∧ xs ≠ [] ∧ xs.length ≤ 1000000 ∧ ∀ x M'', x ∈ xs → IsA s l (n + 1) M'' → k x ((p, .lst xs) :: Mx ++ M'')
theorem mo_L_pick2 : MonoD sp_L_pick2 := fun _ _ _ _ _ _ hk _ ⟨s, l, n, p, xs, Mx, M', e, e2, h1, h2, h3, h4, q⟩ => ⟨s, l, n, p, xs, Mx, M', e, e2, h1, h2, h3, h4, fun r M'' a b => hk _ _ (q r M'' a b)⟩
theorem lenB2 {n : Nat} (h : n ≤ 1000000) : DL.B 120 (n : Int) := by
  show (n : Int).natAbs < 2 ^ 120
  rw [Int.natAbs_natCast]
  exact Nat.lt_of_le_of_lt h (by decide)
theorem asc_snoc2 {ks : List Kn} {x : Kn} (h : Asc ks) (hx : ∀ k, ks[ks.length - 1]? = some k → k.1 < x.1) : Asc (ks ++ [x]) := fun i a b h1 h2 => by
  by_cases hi : i + 1 < ks.length
  · rw [List.getElem?_append_left (by omega)] at h1
    rw [List.getElem?_append_left hi] at h2
    exact h i a b h1 h2
  · have hl : i + 1 < (ks ++ [x]).length := (List.getElem?_eq_some_iff.mp h2).1
    rw [List.length_append] at hl
    have hl : i + 1 = ks.length := by
      have : [x].length = 1 := rfl
      omega
    rw [List.getElem?_append_left (by omega)] at h1
    rw [List.getElem?_append_right (by omega), show i + 1 - ks.length = 0 by omega] at h2
    cases h2
    exact hx a (by rw [show ks.length - 1 = i by omega]; exact h1)
theorem first_snoc2 {ks : List Kn} {x : Kn} (h : ks ≠ []) : firstT (ks ++ [x]) = firstT ks ∧ firstX (ks ++ [x]) = firstX ks := by
  cases ks with
  | nil => exact absurd rfl h
  | cons k r => exact ⟨rfl, rfl⟩
theorem sixths {r : Int} (h0 : 0 ≤ r) (h1 : r < 3) : ∃ z : Nat, 1 ≤ z ∧ z ≤ 6 ∧ Rat.divInt 1 (1 + r) = ((z : Int) : Rat) / 6 := by
  rcases (show r = 0 ∨ r = 1 ∨ r = 2 by omega) with rfl | rfl | rfl
  · exact ⟨6, by omega, by omega, by decide +kernel⟩
  · exact ⟨3, by omega, by omega, by decide +kernel⟩
  · exact ⟨2, by omega, by omega, by decide +kernel⟩
theorem dQ_one {r : Int} (h0 : 0 ≤ r) (h1 : r < 3) : dQ (Rat.divInt 1 (1 + r)) = .tup [.int 1, .int (1 + r)] := by
  rcases (show r = 0 ∨ r = 1 ∨ r = 2 by omega) with rfl | rfl | rfl
  · exact dQ_lt (by decide +kernel) (by decide +kernel)
  · exact dQ_lt (by decide +kernel) (by decide +kernel)
  · exact dQ_lt (by decide +kernel) (by decide +kernel)
theorem Loads.upd {L : Option Int} {b : Rat} {ns : List Str} {kf : Str → List Kn} (h : Loads L b ns kf) {nm : Str} {ks : List Kn} (kt : Kt ks) (hb : firstT ks = b) (hx : firstX ks = firstX (kf nm)) : Loads L b ns (fun m => if m = nm then ks else kf m) := by
  have e : ∀ m, firstX (if m = nm then ks else kf m) = firstX (kf m) := fun m => by
    by_cases z : m = nm
    · rw [if_pos z, hx, z]
    · rw [if_neg z]
  refine ⟨h.ne, h.len, h.nd, h.nm, fun m hm => ?_, fun m hm => ?_, h.bb, h.lok, fun m hm n hn hne => ?_⟩
  · split
    · exact kt
    · exact h.kt m hm
  · split
    · exact hb
    · exact h.beg m hm
  · rw [e, e]
    exact h.apart m hm n hn hne
def spl_L_places : PSp := fun ds k _ => ∃ L b ns kf t, ds = [dLds ns kf, dQ t, dL L] ∧ Loads L b ns kf ∧ BQ 200 t ∧ b ≤ t ∧ ∀ ps : List Rat, (∀ n ∈ ns, ps[(carQ L b ns kf n t).toNat]? = some (plcQ L b ns kf n t)) → k (.lst (ps.map dQ))
theorem mo_L_places : MonoP spl_L_places := fun _ _ _ _ _ hk _ ⟨L, b, ns, kf, t, e, h1, h2, h3, q⟩ => ⟨L, b, ns, kf, t, e, h1, h2, h3, fun ps a => hk _ (q ps a)⟩
local macro_rules | `(tactic| walk_at "go") => `(tactic| repeat (first
  | ((with_reducible refine idE ?_); first
    | ((with_reducible apply XE.var); · exact rfl)
    | (with_reducible first
      | refine XE.op ?_
      | refine XE.int ?_
      | refine XE.str ?_
      | refine XE.ite ?_
      | refine XE.cb ?_
      | refine XE.tup ?_
      | refine XE.bl ?_
      | refine XE.non ?_
      | refine XE.ty ?_
      | refine XE.un ?_
      | refine XE.andV ?_
      | refine XE.orV ?_
      | refine XE.notV ?_
      | refine XE.slice ?_
      | refine XE.chain ?_))
  | ((with_reducible refine idE ?_); (with_reducible refine XE.callP ?_ (fun _ => rfl) (dD := []) (fun _ => .nil) ?_); (focus (first | with_reducible exact mo_R | walk_at "mo")))
  | ((with_reducible refine idE ?_); (with_reducible refine XE.methP ?_ (fun _ => rfl) (dD := []) (fun _ => .nil) ?_); (focus (first | with_reducible exact mo_R | walk_at "mo")))
  | ((with_reducible refine idE ?_); (with_reducible refine XE.callT mo_R (fun _ => rfl) (dD := []) (fun _ => .nil) ?_))
  | ((with_reducible refine idE ?_); (with_reducible refine XE.callNP ?_ (fun _ => rfl) ?_); (focus (first | with_reducible exact mo_R | walk_at "mo")))
  | ((with_reducible refine idE ?_); (with_reducible refine XE.callNTP mo_R (fun _ => rfl) ?_))
  | ((with_reducible refine idA ?_); with_reducible first
      | refine XA.nil ?_
      | refine XA.cons ?_)
  | ((with_reducible refine idR ?_); first
      | (with_reducible first
        | refine XR.add_int ?_
        | refine XR.eq_int ?_
        | refine XR.ne_int ?_
        | refine XR.i0 ?_
        | refine XR.subB ?_
        | refine XR.ne_dQ ?_
        | refine XR.eq_dQ ?_
        | refine XR.b0 ?_
        | refine XR.isN ?_
        | refine XR.ntN ?_)
      | refine XR.ix_tup rfl ?_
      | refine XR.ix_lst (by first | exact LsAt.lst | exact LsAt.raw At.hd) rfl ?_)
  | ((with_reducible refine idS ?_); with_reducible first
      | refine XS.seq ?_
      | refine XS.asg ?_
      | refine XS.ret ?_
      | refine XS.ifs ?_
      | refine XS.next ?_
      | refine XS.drop ?_
      | refine XS.par ?_
      | refine XS.par3 ?_)
  | ((with_reducible refine idT ?_); with_reducible first
      | refine XT.tst ?_
      | refine XT.bool ?_
      | refine XT.and ?_
      | refine XT.or ?_
      | refine XT.not ?_)
  | ((with_reducible refine idT ?_); refine XT.yes ?_)
  | ((with_reducible refine idS ?_); refine XS.aug rfl ?_)
  | with_reducible refine ex1 ?_
  | refine pickF rfl ?_
  | refine pickT rfl ?_
  | ((with_reducible refine idO ?_); with_reducible first
      | refine XO.none ?_
      | refine XO.some ?_)
  | ((with_reducible refine idGs ?_); with_reducible first
      | refine XGs.nil ?_
      | refine XGs.cons ?_)
  | ((with_reducible refine idG ?_); with_reducible first
      | refine XG.name (by simp) ?_
      | refine XG.tup rfl ?_)
  | with_reducible refine XC.abs ?_
  | with_reducible refine XU.neg ?_
  | refine ⟨_, _, rfl, ?_⟩
  | refine ⟨_, _, _, rfl, ?_⟩
  | refine ⟨_, rfl, ?_⟩
  | refine ⟨show (_ : Nat) + 1 ≤ 16000000 by simp only [List.length_cons, List.length_nil] <;> decide, ?_⟩
  | refine ⟨show (0 : Nat) ≤ 16000000 by decide, ?_⟩
  | refine ⟨rfl, rfl, rfl, _, (by walk_at "use"), ?_⟩
  | refine ⟨rfl, rfl, rfl, (by walk_at "tab"), _, (by walk_at "use"), ?_⟩
  | refine ⟨rfl, (by walk_at "tab"), _, (by walk_at "use"), ?_⟩
  | refine ⟨_, .ins, rfl, ?_⟩
  | ((refine ⟨rfl, ?_⟩); (with_reducible refine u_is_lessA ?_ ?_ ?_); (focus walk_at "bq"); (focus walk_at "bq"))
  | ((refine ⟨rfl, ?_⟩); (with_reducible refine u_sum_ofA ?_ ?_ ?_); (focus walk_at "bq"); (focus walk_at "bq"))
  | ((refine ⟨rfl, ?_⟩); (with_reducible refine u_rest_ofA ?_ ?_ ?_); (focus walk_at "bq"); (focus walk_at "bq"))
  | ((refine ⟨rfl, ?_⟩); (with_reducible refine u_product_ofA ?_ ?_ ?_); (focus walk_at "bq"); (focus walk_at "bq"))
  | refine ⟨rfl, _, (by walk_at "use"), ?_⟩
  | dsimp only [List.set_cons_zero, List.set_cons_succ]))
local macro_rules | `(tactic| walk_at "sp") => `(tactic| first | refine ⟨[], _, rfl, rfl, ?_⟩ | refine ⟨rfl, ?_⟩)
local macro_rules | `(tactic| walk_at "tab") => `(tactic| first | exact .hd | exact .tl .hd | exact .tl (.tl .hd) | exact .tl (.tl (.tl .hd)))
local macro_rules | `(tactic| walk_at "sp1") => `(tactic| first | refine ⟨[_], _, rfl, rfl, ?_⟩ | refine ⟨rfl, ?_⟩)
local macro_rules | `(tactic| walk_at "sp2") => `(tactic| first | refine ⟨[_, _], _, rfl, rfl, ?_⟩ | refine ⟨rfl, ?_⟩)

local macro_rules | `(tactic| walk_at "mo") => `(tactic| first | exact mo_L_take | exact mo_L_pick | exact mo_L_pick2 | exact mo_L_ascending)
local macro_rules | `(tactic| walk_at "callD") => `(tactic| (refine XE.call (by walk_at "mo") (fun _ => rfl) (dD := []) (fun _ => .nil) ?_))
local macro_rules | `(tactic| walk_at "use") => `(tactic| (try dsimp only [List.cons_append, List.nil_append, List.append_nil]); first | ((with_reducible apply u_L_sum) <;> first | assumption | walk_at "bq") | ((with_reducible apply u_L_rest) <;> first | assumption | walk_at "bq") | ((with_reducible apply u_L_less) <;> first | assumption | walk_at "bq") | ((with_reducible apply u_L_floor) <;> first | assumption | walk_at "bq") | ((with_reducible apply u_L_spot) <;> first | assumption | walk_at "bq") | ((with_reducible apply u_L_at) <;> first | assumption | walk_at "bq") | exact u_L_sum (by walk_at "bq") (by walk_at "bq") | exact u_L_rest (by walk_at "bq") (by walk_at "bq") | exact u_L_less (by walk_at "bq") (by walk_at "bq") | exact u_L_floor (by assumption) (by assumption) | exact u_L_spot (by assumption) (by assumption) | exact u_L_at (by assumption) (by assumption) (by assumption))
section
variable {P : Program} {w : World} {K : PySem.W.Frag} {mg : Str → Option Value} {base : Heap}
theorem ok_L_ascending (T : Txt K mg) : FnOk P w K mg base (L2.CX P w) 2 T.L_ascending.a T.L_ascending.fd ["some"] (spD K 1 (pur (spl_L_ascending))) := by
  refine fn_okP T.L_ascending.F sc_L_ascending rfl fun cdv A outer s H E hr => ?_
  have nd := sc_L_ascending.nd
  have hu64 := hr.units
  have hu65 := hu65_of hr
  have hu1 := hu_of hr
  refine ⟨_, (pss_cons (ps_set (i := 1) nd rfl (by first | exact Or.inl rfl | exact Or.inr rfl) (pe_lst pa_nil))
      (pss_cons (ps_for (passes_of rfl) rfl (pi_K (K := K) rfl (pv 0)) (pg_name (i := 2) nd rfl (by first | exact Or.inl rfl | exact Or.inr rfl))
      (pss_cons (ps_set (i := 3) nd rfl (by first | exact Or.inl rfl | exact Or.inr rfl) (pe_callB (cr_lenK (K := K) rfl) (by rfl) T.m_len PySem.boot_len (pa_cons (pv 1) pa_nil)))
      (pss_cons (ps_while (passes_of rfl) (PW.pt (pw_and (pt_cmpR op_gt (pv 3) pe_int (nomark _)) (pw_and1 (pt_val (pe_call (ok_L_less T) (hr.mono (by decide)) rfl T.L_less.g T.L_less.F.kp (b_L_less T) .nil px0 (pa_cons (pv 2) (pa_cons (pe_ix (ix_K (K := K) rfl) (pv 1) (pe_op op_sub (pv 3) pe_int) (fun _ _ => rfl)) pa_nil))))))) (pss_one (ps_set (i := 3) nd rfl (by first | exact Or.inl rfl | exact Or.inr rfl) (pe_op op_sub (pv 3) pe_int))))
      (pss_one (ps_expr (pe_bmK (K := K) rfl PySem.F.plainAttrs_list PySem.F.slot_list_insert PySem.F.type_list_insert mt_ins (pv 1) (pa_cons (pv 3) (pa_cons (pv 2) pa_nil))))))))
      (pss_one (ps_ret (pv 1))))), fun ds kk xx hl h => ?_⟩
  try dsimp only [cxOf]
  obtain ⟨xs, rfl, hl100, hB, hk⟩ := h
  walk_at "go"
  refine XE.lstM ?_
  walk_at "go"
  intro pF hpF
  walk_at "go"
  refine XS.for [2] (XI.U ?_)
  walk_at "go"
  refine ⟨_, .lst, fun i ds M => (∃ a1 a2 : Option D, ds = [some (.lst (xs.map dQ)), some (.raw pF), a1, a2]) ∧ ∃ ys : List Rat, ys.Perm (xs.take i) ∧ Srt ys ∧ M = [(pF, .lst (ys.map dQ))], ⟨⟨_, _, rfl⟩, [], List.Perm.nil, List.Pairwise.nil, rfl⟩, ?_, ?_⟩
  · rintro i x _ M hx ⟨⟨a1, a2, rfl⟩, ys, hp, hs, rfl⟩
    obtain ⟨q, hq, rfl⟩ := map_get hx
    have qB := hB q (List.mem_of_getElem? hq)
    have hlen : ys.length ≤ 100 := by rw [hp.length_eq, List.length_take]; omega
    have yB : ∀ y ∈ ys, BQ 4000 y := fun y hy => hB y (List.mem_of_mem_take (hp.mem_iff.mp hy))
    walk_at "go"
    refine XC.len (.raw .hd) ?_
    rw [List.length_map]
    try dsimp only [List.set_cons_zero, List.set_cons_succ]
    refine XS.cut (fun ds M => ∃ a : Nat, ds = [some (.lst (xs.map dQ)), some (.raw pF), some (dQ q), some (.int a)] ∧ M = [(pF, .lst (ys.map dQ))] ∧ a ≤ ys.length ∧ (∀ j y, a ≤ j → ys[j]? = some y → q < y) ∧ ∀ j y, j + 1 = a → ys[j]? = some y → ¬ q < y) ?_ ?_
    · refine XS.while (fun m ds M => ds = [some (.lst (xs.map dQ)), some (.raw pF), some (dQ q), some (.int m)] ∧ M = [(pF, .lst (ys.map dQ))] ∧ m ≤ ys.length ∧ ∀ j y, m ≤ j → ys[j]? = some y → q < y) ys.length ⟨rfl, rfl, Nat.le_refl _, fun j y hj hy => ?_⟩ ?_
      · have := (List.getElem?_eq_some_iff.mp hy).1
        omega
      rintro m _ M ⟨rfl, rfl, hm, hI⟩
      walk_at "go"
      refine ⟨fun hc => ?_, fun hc => ?_⟩
      · have hc : 0 < m := by have := of_decide_eq_true hc; omega
        obtain ⟨y, hy⟩ : ∃ y, ys[m - 1]? = some y := ⟨_, List.getElem?_eq_getElem (by omega)⟩
        have yB1 := yB y (List.mem_of_getElem? hy)
        walk_at "go"
        refine XR.ix_lst (.raw .hd) (at_nat (j := m - 1) (by omega) (DL.get_map hy)) ?_
        walk_at "go"
        refine ⟨fun hd => ?_, fun hd => ?_⟩
        · have hd := of_decide_eq_true hd
          walk_at "go"
          refine ⟨m - 1, by omega, by rw [show ((m : Int) - 1) = ((m - 1 : Nat) : Int) by omega], rfl, by omega, fun j z hj hz => ?_⟩
          by_cases e : j = m - 1
          · subst e
            rw [hy] at hz
            cases hz
            exact hd
          · exact hI j z (by omega) hz
        · have hd := of_decide_eq_false hd
          refine ⟨m, rfl, rfl, hm, hI, fun j z hj hz => ?_⟩
          have e : j = m - 1 := by omega
          subst e
          rw [hy] at hz
          cases hz
          exact hd
      · have hc : m = 0 := by have := of_decide_eq_false hc; omega
        subst hc
        exact pickF rfl ⟨0, rfl, rfl, hm, hI, fun j z hj => by omega⟩
    · rintro _ M ⟨a, rfl, rfl, ha, h1, h2⟩
      walk_at "go"
      refine XE.bm ?_
      walk_at "go"
      refine ⟨ty_lst (.raw .hd), ?_⟩
      walk_at "go"
      refine XM.insert (M' := [(pF, .lst ((ys.map dQ).take (a : Int).toNat ++ [dQ q] ++ (ys.map dQ).drop (a : Int).toNat))]) .hd (by rw [List.length_map]; omega) (by omega) (by omega) ?_
      refine ⟨⟨_, _, rfl⟩, ys.take a ++ [q] ++ ys.drop a, ?_, srt_insert hs ha h1 h2, ?_⟩
      · rw [take_get' hq]
        exact ins_perm.trans (hp.append_right _)
      · rw [List.map_append, List.map_append, List.map_take, List.map_drop]
        rfl
  · rintro _ M ⟨⟨a1, a2, rfl⟩, ys, hp, hs, rfl⟩
    rw [List.length_map, List.take_length] at hp
    refine XS.ret (XE.varF rfl .hd ?_)
    exact hk ys hp hs
theorem ok_L_places (T : Txt K mg) : FnOk P w K mg base (L2.CX P w) 4 T.L_places.a T.L_places.fd ["loads", "time", "ring"] (spD K 3 (pur (spl_L_places))) := by
  refine fn_okP T.L_places.F sc_L_places rfl fun cdv A outer s H E hr => ?_
  have nd := sc_L_places.nd
  have hu64 := hr.units
  have hu65 := hu65_of hr
  have hu1 := hu_of hr
  refine ⟨_, (pss_cons (ps_setLc (i := 3) (own := [("name", 8)]) (g := gName 8) (by rfl) nd rfl rfl (sw_true rfl rfl rfl (by decide +kernel)) (pi_keys (pv 0)) (blkOk_by (N := N_L_places) (sc := defScope s_L_places) (by decide +kernel)) (fun _ _ _ _ _ => (pg_name (i := 8) nd rfl (by first | exact Or.inl rfl | exact Or.inr rfl))) (fun _ _ _ _ _ => pts_nil) (fun _ _ _ _ _ => (pe_call (ok_L_at T) (hr.mono (by decide)) rfl T.L_at.g T.L_at.F.kp (b_L_at T) .nil passL (pa_cons (pe_dget hu1 (pv 0) (pv 8) (fun _ _ => rfl)) (pa_cons (pv 1) pa_nil)))))
      (pss_cons (ps_if (pt_cmpR op_isN' (pv 2) pe_non (nomark _))
      (pss_one (ps_ret (pe_call (ok_L_ascending T) (hr.mono (by decide)) rfl T.L_ascending.g T.L_ascending.F.kp (b_L_ascending T) .nil px0 (pa_cons (pv 3) pa_nil))))
      pss_nil)
      (pss_cons (ps_par (i := 4) (j := 5) rfl nd rfl rfl (by decide) rfl rfl (pa_cons (pe_call (ok_L_ascending T) (hr.mono (by decide)) rfl T.L_ascending.g T.L_ascending.F.kp (b_L_ascending T) .nil px0 (pa_cons (pe_lc (own := [("place", 7)]) (g := gName 7) (by rfl) nd (pi_K (K := K) rfl (pv 3)) (blkOk_by (N := N_L_places) (sc := defScope s_L_places) (by decide +kernel)) (fun _ _ _ _ _ => (pg_name (i := 7) nd rfl (by first | exact Or.inl rfl | exact Or.inr rfl))) (fun _ _ _ _ _ => pts_nil) (fun _ _ _ _ _ => (pe_call (ok_L_spot T) (hr.mono (by decide)) rfl T.L_spot.g T.L_spot.F.kp (b_L_spot T) .nil passL (pa_cons (pv 7) (pa_cons (pv 2) pa_nil))))) pa_nil)) (pa_cons (pe_callB (cr_lenK (K := K) rfl) (by rfl) T.m_len PySem.boot_len (pa_cons (pv 3) pa_nil)) pa_nil)) (by rfl))
      (pss_cons (ps_set (i := 6) nd rfl (by first | exact Or.inl rfl | exact Or.inr rfl) pe_int)
      (pss_cons (ps_for (passes_of rfl) rfl (pi_K (K := K) rfl (pv 3)) (pg_name (i := 7) nd rfl (by first | exact Or.inl rfl | exact Or.inr rfl))
      (pss_one (ps_set (i := 6) nd rfl (by first | exact Or.inl rfl | exact Or.inr rfl) (pe_op (op_addK (K := K) rfl) (pv 6) (pe_call (ok_L_floor T) (hr.mono (by decide)) rfl T.L_floor.g T.L_floor.F.kp (b_L_floor T) .nil px0 (pa_cons (pv 7) (pa_cons (pv 2) pa_nil)))))))
      (pss_cons (ps_for (passes_of rfl) rfl (pi_keys (pv 0)) (pg_name (i := 8) nd rfl (by first | exact Or.inl rfl | exact Or.inr rfl))
      (pss_one (ps_set (i := 6) nd rfl (by first | exact Or.inl rfl | exact Or.inr rfl) (pe_op op_sub (pv 6) (pe_call (ok_L_floor T) (hr.mono (by decide)) rfl T.L_floor.g T.L_floor.F.kp (b_L_floor T) .nil px0 (pa_cons (pe_ix (ix_K (K := K) rfl) (pe_ix (ix_K (K := K) rfl) (pe_dget hu1 (pv 0) (pv 8) (fun _ _ => rfl)) pe_int (fun _ _ => rfl)) pe_int (fun _ _ => rfl)) (pa_cons (pv 2) pa_nil)))))))
      (pss_cons (ps_set (i := 9) nd rfl (by first | exact Or.inl rfl | exact Or.inr rfl) (pe_lst pa_nil))
      (pss_cons (ps_for (passes_of rfl) rfl (pi_range2A rfl T.m_range (pa_cons (pv 6) (pa_cons (pe_op (op_addK (K := K) rfl) (pv 6) (pv 5)) pa_nil))) (pg_name (i := 10) nd rfl (by first | exact Or.inl rfl | exact Or.inr rfl))
      (pss_one (ps_expr (pe_bmK (K := K) rfl PySem.F.plainAttrs_list PySem.F.slot_list_append PySem.F.type_list_append mt_append (pv 9) (pa_cons (pe_call (ok_L_sum T) (hr.mono (by decide)) rfl T.L_sum.g T.L_sum.F.kp (b_L_sum T) .nil px0 (pa_cons (pe_ix (ix_K (K := K) rfl) (pv 4) (pe_op op_modN (pv 10) (pv 5)) (fun _ _ => rfl)) (pa_cons (pe_tup (pa_cons (pe_op op_mulW (pe_op op_fdivZ (pv 10) (pv 5)) (pv 2)) (pa_cons pe_int pa_nil))) pa_nil))) pa_nil)))))
      (pss_one (ps_ret (pv 9))))))))))), fun ds kk xx hl h => ?_⟩
  try dsimp only [cxOf]
  obtain ⟨L, b, ns, kf, t, rfl, hL, ht, hb, hk⟩ := h
  have hlen := hL.len
  have lok := hL.lok
  have gl : ∀ n ∈ ns, valD (ns.map fun m => (kN m, D.lst ((kf m).map dKn))) (kN n) = some (.lst ((kf n).map dKn)) := fun n hn => val_fun (e := fun m => D.lst ((kf m).map dKn)) hn
  walk_at "go"
  refine XE.lcMap D.str (fun n => dQ (xAt kf t n)) str_inj (XI.keys ?_)
  walk_at "go"
  refine ⟨ns, keys_map ns, by omega, fun n hm => ?_, ?_⟩
  · have kt := hL.kt n hm
    have fl : firstT (kf n) ≤ t := by rw [hL.beg n hm]; exact hb
    walk_at "go"
    refine XE.dgetG ?_
    walk_at "go"
    refine ⟨_, kN n, _, .fdct, rfl, gl n hm, ?_⟩
    walk_at "go"
    exact ⟨rfl, rfl⟩
  rw [show (ns.map fun n => dQ (xAt kf t n)) = (ns.map (xAt kf t)).map dQ from by rw [List.map_map]; rfl]
  cases L with
  | none =>
    dsimp only [dL]
    walk_at "go"
    refine ⟨rfl, ns.map (xAt kf t), rfl, by rw [List.length_map]; omega, fun x hx => ?_, fun ys hp hs => ?_⟩
    · obtain ⟨n, hn, rfl⟩ := List.mem_map.mp hx
      exact (xB hL ht hn).mono (by decide)
    walk_at "go"
    exact hk ys fun n hn => places_line hL hb hp hs hn
  | some l =>
    obtain ⟨h1, h2⟩ := lok l rfl
    dsimp only [dL]
    walk_at "go"
    refine XE.lcMap dQ (fun x => dQ (spotQ (some l) x)) dQ_inj' (XI.U ?_)
    walk_at "go"
    refine ⟨_, .lst, ns.map (xAt kf t), rfl, by rw [List.length_map]; omega, fun x hx => ?_, ?_⟩
    · obtain ⟨n, hn, rfl⟩ := List.mem_map.mp hx
      have xb := xB hL ht hn
      walk_at "go"
      exact ⟨rfl, rfl⟩
    rw [show ((ns.map (xAt kf t)).map fun x => dQ (spotQ (some l) x)) = (ns.map (spA (some l) kf t)).map dQ from by rw [List.map_map, List.map_map]; rfl]
    walk_at "go"
    refine ⟨rfl, ns.map (spA (some l) kf t), rfl, by rw [List.length_map]; omega, fun x hx => ?_, fun ys hp hs => ?_⟩
    · obtain ⟨n, hn, rfl⟩ := List.mem_map.mp hx
      exact (spotQ_B lok (xB hL ht hn) (by decide) (by decide)).mono (by decide)
    have yl : ys.length = ns.length := by rw [hp.length_eq, List.length_map]
    walk_at "go"
    refine XC.len .lst ?_
    rw [List.length_map, List.length_map]
    walk_at "go"
    refine XS.for [7] (XI.U ?_)
    walk_at "go"
    refine ⟨_, .lst, fun i ds M => (∃ a1 a2 a3 a4 : Option D, ds = [some (dLds ns kf), some (dQ t), some (.int l), some (.lst ((ns.map (xAt kf t)).map dQ)), some (.lst (ys.map dQ)), some (.int ns.length), some (.int (((ns.take i).map fun n => floorQ (some l) (xAt kf t n)).sum)), a1, a2, a3, a4]) ∧ M = [], ⟨⟨_, _, _, _, rfl⟩, rfl⟩, ?_, ?_⟩
    · rintro i x _ M hx ⟨⟨a1, a2, a3, a4, rfl⟩, rfl⟩
      obtain ⟨q, hq, rfl⟩ := map_get hx
      obtain ⟨n, hn, rfl⟩ := map_get' hq
      have hm := List.mem_of_getElem? hn
      have xb := xB hL ht hm
      have e : ((ns.take (i + 1)).map fun n => floorQ (some l) (xAt kf t n)).sum = ((ns.take i).map fun n => floorQ (some l) (xAt kf t n)).sum + floorQ (some l) (xAt kf t n) := by
        rw [take_get' hn, List.map_append, List.sum_append]
        simp
      walk_at "go"
      exact ⟨⟨_, _, _, _, by (rw [e]; try rfl)⟩, rfl⟩
    rintro _ M ⟨⟨a1, a2, a3, a4, rfl⟩, rfl⟩
    rw [List.length_map, List.length_map, List.take_length]
    obtain ⟨S, hS⟩ : ∃ S, S = (ns.map fun n => floorQ (some l) (xAt kf t n)).sum := ⟨_, rfl⟩
    rw [← hS]
    walk_at "go"
    refine XS.for [8] (XI.keys ?_)
    walk_at "go"
    rw [keys_map]
    refine ⟨fun i ds M => (∃ a1 a2 a3 a4 : Option D, ds = [some (dLds ns kf), some (dQ t), some (.int l), some (.lst ((ns.map (xAt kf t)).map dQ)), some (.lst (ys.map dQ)), some (.int ns.length), some (.int (S - ((ns.take i).map fun n => floorQ (some l) (firstX (kf n))).sum)), a1, a2, a3, a4]) ∧ M = [], ⟨⟨_, _, _, _, by rw [List.take_zero, List.map_nil, List.sum_nil, Int.sub_zero]⟩, rfl⟩, ?_, ?_⟩
    · rintro i x _ M hx ⟨⟨a1, a2, a3, a4, rfl⟩, rfl⟩
      obtain ⟨n, hn, rfl⟩ := map_get hx
      have hm := List.mem_of_getElem? hn
      obtain ⟨k1, hk1, _, e2, _, hkx⟩ := (hL.kt n hm).get0
      have hkx2 : BQ 1404 k1.2 := hkx.mono (by decide)
      have e : S - ((ns.take (i + 1)).map fun n => floorQ (some l) (firstX (kf n))).sum = S - ((ns.take i).map fun n => floorQ (some l) (firstX (kf n))).sum - floorQ (some l) k1.2 := by
        rw [take_get' hn, List.map_append, List.sum_append, ← e2]
        simp
        omega
      walk_at "go"
      refine XE.dgetG ?_
      walk_at "go"
      refine ⟨_, kN n, _, .fdct, rfl, gl n hm, ?_⟩
      walk_at "go"
      refine XR.ix_lst .lst (at_nat (z := 0) (j := 0) rfl (DL.get_map hk1)) ?_
      dsimp only [dKn]
      walk_at "go"
      exact ⟨⟨_, _, _, _, by (rw [e]; try rfl)⟩, rfl⟩
    rintro _ M ⟨⟨a1, a2, a3, a4, rfl⟩, rfl⟩
    rw [List.length_map, List.take_length, show S - (ns.map fun n => floorQ (some l) (firstX (kf n))).sum = lapT (some l) b ns kf t from by rw [hS, lap_eq hL]]
    obtain ⟨Tt, hTt⟩ : ∃ Tt, Tt = lapT (some l) b ns kf t := ⟨_, rfl⟩
    have tB := lapB hL hb
    rw [← hTt] at tB ⊢
    have npos := hL.npos
    have lB : DL.B 200 (ns.length : Int) := by
      show (ns.length : Int).natAbs < 2 ^ 200
      rw [Int.natAbs_natCast]
      exact Nat.lt_of_le_of_lt hlen (by decide)
    walk_at "go"
    refine XE.lstM ?_
    walk_at "go"
    intro pF hpF
    walk_at "go"
    refine XS.for [10] (XI.rng2A ?_)
    walk_at "go"
    refine ⟨fun i ds M => (∃ a1 a2 a4 : Option D, ds = [some (dLds ns kf), some (dQ t), some (.int l), some (.lst ((ns.map (xAt kf t)).map dQ)), some (.lst (ys.map dQ)), some (.int ns.length), some (.int Tt), a1, a2, some (.raw pF), a4]) ∧ M = [(pF, .lst (((List.range i).map (ringQ l ys Tt ns.length)).map dQ))], ⟨⟨_, _, _, rfl⟩, rfl⟩, ?_, ?_⟩
    · rintro i x _ M hx ⟨⟨a1, a2, a4, rfl⟩, rfl⟩
      rw [rngD_get] at hx
      split at hx
      rotate_left
      · cases hx
      rename_i hi
      cases hx
      have hi : i < ns.length := by omega
      have m0 := Int.emod_nonneg (Tt + (i : Int)) (show (ns.length : Int) ≠ 0 by omega)
      have m1 := Int.emod_lt_of_pos (Tt + (i : Int)) npos
      obtain ⟨y, hy⟩ : ∃ y, ys[((Tt + (i : Int)) % ns.length).toNat]? = some y := ⟨_, List.getElem?_eq_getElem (by omega)⟩
      have er : ringQ l ys Tt ns.length i = y + (((Tt + i) / ns.length * l : Int) : Rat) := by
        unfold ringQ
        rw [List.getD_eq_getElem?_getD, hy]
        rfl
      have yB : BQ 3010 y := by
        obtain ⟨n, hn, rfl⟩ := List.mem_map.mp (hp.mem_iff.mp (List.mem_of_getElem? hy))
        exact spotQ_B lok (xB hL ht hn) (by decide) (by decide)
      have iB : DL.B 10 (i : Int) := show (i : Int).natAbs < 2 ^ 10 by omega
      have dB : DL.B 221 ((Tt + (i : Int)) / ns.length) := (tB.add iB).le (Int.natAbs_ediv_le_natAbs _ _)
      have pB : BQ 421 (((Tt + (i : Int)) / ns.length * l : Int) : Rat) := BQ.int (dB.mul h2) (by decide)
      walk_at "go"
      refine XE.bm ?_
      walk_at "go"
      refine ⟨ty_lst (.raw .hd), ?_⟩
      walk_at "go"
      refine XR.i (by omega) ?_
      rw [Int.fmod_eq_emod_of_nonneg _ (by omega)]
      refine XR.ix_lst .lst (at_nat (j := ((Tt + (i : Int)) % ns.length).toNat) (by omega) (DL.get_map hy)) ?_
      walk_at "go"
      refine XR.i (lB.divOk (by omega) (by decide) (by decide)) ?_
      rw [Int.fdiv_eq_ediv_of_nonneg _ (by omega)]
      walk_at "go"
      refine XR.i (dB.mulOk h2 (by decide) (by decide) (by decide)) ?_
      walk_at "go"
      refine ⟨rfl, _, u_L_sum (q := (((Tt + (i : Int)) / ns.length * l : Int) : Rat)) (by walk_at "bq") (by walk_at "bq"), ?_⟩
      walk_at "go"
      refine XM.append .hd (by rw [List.length_map, List.length_map, List.length_range]; omega) ?_
      refine ⟨⟨_, _, _, rfl⟩, ?_⟩
      rw [List.range_succ, List.map_append, List.map_append, ← er]
      rfl
    rintro _ M ⟨⟨a1, a2, a4, rfl⟩, rfl⟩
    have hl2 : (rngD Tt (Tt + (ns.length : Int) - Tt).toNat).length = ns.length := by
      rw [rngD_len]
      omega
    rw [hl2]
    refine XS.ret (XE.varF rfl .hd ?_)
    refine hk _ fun n hn => ?_
    have c0 := hL.car_ge n t
    have c1 := hL.car_lt n t
    rw [List.getElem?_map, List.getElem?_range (by omega), hTt]
    exact congrArg some (places_ring hL hb hp hs hn)
theorem ok2_L_pick (T : Txt K mg) : FnOk P w K mg base (L2.CX P w) 2 T.L_pick.a T.L_pick.fd ["draw", "some"] (spD K 2 (sp_L_pick2)) := by
  refine fn_okD T.L_pick.F sc_L_pick rfl fun cdv A outer s H E hr => ?_
  have nd := sc_L_pick.nd
  have hu64 := hr.units
  have hu65 := hu65_of hr
  have hu1 := hu_of hr
  refine ⟨_, (pss_one (ps_ret (pe_ix (ix_K (K := K) rfl) (pv 1) (pe_call (ok_L_take T) (hr.mono (by decide)) rfl T.L_take.g T.L_take.F.kp (b_L_take T) .nil px0 (pa_cons (pv 0) (pa_cons (pe_callB (cr_lenK (K := K) rfl) (by rfl) T.m_len PySem.boot_len (pa_cons (pv 1) pa_nil)) pa_nil))) (fun _ _ => rfl)))), fun ds M kk xx hl h => ?_⟩
  try dsimp only [cxOf]
  obtain ⟨s, l, n, p, xs, Mx, Mc, rfl, rfl, hS, hn, hne, hxl, hk⟩ := h
  have hp := List.length_pos_iff.mpr hne
  walk_at "go"
  walk_at "callD"
  walk_at "go"
  refine XC.len (.raw .hd) ?_
  walk_at "go"
  refine ⟨rfl, s, l, n, _, rfl, hS, hn, by omega, lenB2 hxl, fun r M' h0 h1 hS' => ?_⟩
  obtain ⟨x, hx⟩ : ∃ x, xs[r.toNat]? = some x := ⟨_, List.getElem?_eq_getElem (show r.toNat < xs.length by omega)⟩
  exact XR.ix_lst (.raw .hd) (at_nat (j := r.toNat) (by omega) hx) (hk x _ (List.mem_of_getElem? hx) hS')
theorem ok_L_longer (T : Txt K mg) : FnOk P w K mg base (L2.CX P w) 3 T.L_longer.a T.L_longer.fd ["draw", "loads"] (spD K 2 (sp_L_longer)) := by
  refine fn_okD T.L_longer.F sc_L_longer rfl fun cdv A outer s H E hr => ?_
  have nd := sc_L_longer.nd
  have hu64 := hr.units
  have hu65 := hu65_of hr
  have hu1 := hu_of hr
  refine ⟨_, (pss_cons (ps_par (i := 2) (j := 3) rfl nd rfl rfl (by decide) rfl rfl (pa_cons (pe_callTy cr_dictD (by rfl) T.m_dict boot_dict (pa_cons (pv 1) pa_nil)) (pa_cons (pe_call (ok_L_pick T) (hr.mono (by decide)) rfl T.L_pick.g T.L_pick.F.kp (b_L_pick T) .nil px0 (pa_cons (pv 0) (pa_cons (pe_callTy (cr_lstG (K := K) rfl (by rfl)) (by rfl) T.m_list boot_list (pa_cons (pv 1) pa_nil)) pa_nil))) pa_nil)) (by rfl))
      (pss_cons (ps_set (i := 4) nd rfl (by first | exact Or.inl rfl | exact Or.inr rfl) (pe_callTy (cr_lstK (K := K) rfl) (by rfl) T.m_list boot_list (pa_cons (pe_dget hu1 (pv 1) (pv 3) (fun _ _ => rfl)) pa_nil)))
      (pss_cons (ps_while (passes_of rfl) (pt_cmpR op_lt (pe_callB (cr_lenK (K := K) rfl) (by rfl) T.m_len PySem.boot_len (pa_cons (pv 4) pa_nil)) pe_int (nomark _)) (pss_one (ps_expr (pe_bmK (K := K) rfl PySem.F.plainAttrs_list PySem.F.slot_list_append PySem.F.type_list_append mt_append (pv 4) (pa_cons (pe_tup (pa_cons (pe_call (ok_L_sum T) (hr.mono (by decide)) rfl T.L_sum.g T.L_sum.F.kp (b_L_sum T) .nil px0 (pa_cons (pe_ix (ix_K (K := K) rfl) (pe_ix (ix_K (K := K) rfl) (pv 4) (pe_un un_neg pe_int) (fun _ _ => rfl)) pe_int (fun _ _ => rfl)) (pa_cons (pe_tup (pa_cons pe_int (pa_cons (pe_op (op_addK (K := K) rfl) pe_int (pe_call (ok_L_take T) (hr.mono (by decide)) rfl T.L_take.g T.L_take.F.kp (b_L_take T) .nil px0 (pa_cons (pv 0) (pa_cons pe_int pa_nil)))) pa_nil))) pa_nil))) (pa_cons (pe_ix (ix_K (K := K) rfl) (pe_call (ok2_L_pick T) (hr.mono (by decide)) rfl T.L_pick.g T.L_pick.F.kp (b_L_pick T) .nil px0 (pa_cons (pv 0) (pa_cons (pv 4) pa_nil))) pe_int (fun _ _ => rfl)) pa_nil))) pa_nil)))))
      (pss_cons (ps_dput hu1 (pv 2) (pv 3) (pv 4) rfl)
      (pss_one (ps_ret (pe_frz (pv 2)))))))), fun ds M kk xx hl h => ?_⟩
  try dsimp only [cxOf]
  obtain ⟨s, l, n, L, b, ns, kf, rfl, hS, hn, hL, hT, hk⟩ := h
  have hlen := hL.len
  have gl : ∀ n ∈ ns, valD (ns.map fun m => (kN m, D.lst ((kf m).map dKn))) (kN n) = some (.lst ((kf n).map dKn)) := fun n hn => val_fun (e := fun m => D.lst ((kf m).map dKn)) hn
  walk_at "go"
  refine XC.dictD .fdct fun pF hpF => ?_
  walk_at "go"
  walk_at "callD"
  walk_at "go"
  refine XC.lstD .fdct ?_
  rw [keys_map]
  walk_at "go"
  walk_at "sp1"
  refine ⟨s, l, _, _, ns.map D.str, rfl, hS, by omega, .lst, fun z => hL.ne (List.map_eq_nil_iff.mp z), by rw [List.length_map]; omega, fun x M1 hx hS => ?_⟩
  obtain ⟨nm, hm, rfl⟩ := List.mem_map.mp hx
  have kt := hL.kt nm hm
  have tm := hT nm hm
  have kpos : 0 < (kf nm).length := List.length_pos_iff.mpr kt.ne
  obtain ⟨kl, hkl⟩ : ∃ kl, (kf nm)[(kf nm).length - 1]? = some kl := ⟨_, List.getElem?_eq_getElem (by omega)⟩
  have tlB : BQ 110 kl.1 := tm kl (List.mem_of_getElem? hkl)
  have klen := kt.len
  walk_at "go"
  refine XE.dgetG ?_
  walk_at "go"
  refine ⟨_, kN nm, _, .fdct, rfl, gl nm hm, ?_⟩
  walk_at "go"
  refine XC.lstM .lst fun pK hpK => ?_
  walk_at "go"
  refine XS.while (fun m ds M => ds = [some (.raw s), some (dLds ns kf), some (.raw pF), some (.str nm), some (.raw pK)] ∧ ∃ (ks : List Kn) (M' : Mem) (z : Nat), M = (pK, .lst (ks.map dKn)) :: (pF, .dct (ns.map fun n => (kN n, .lst ((kf n).map dKn)))) :: M' ∧ IsA s l (n + 1 + 2 * ks.length) M' ∧ m + ks.length = 40 ∧ Lng b (kf nm) ks kl.1 z ∧ z ≤ 6 * ks.length) (40 - (kf nm).length) ⟨rfl, kf nm, M1, 0, rfl, hS.more (by omega) (by omega), by omega, ⟨kt, hL.beg nm hm, rfl, kl, hkl, by grind⟩, by omega⟩ ?_
  rintro m _ M ⟨rfl, ks, M', z, rfl, hS, hml, hK, hz⟩
  have kne := hK.kt.ne
  have kpos2 : 0 < ks.length := List.length_pos_iff.mpr kne
  walk_at "go"
  refine XC.len (.raw .hd) ?_
  rw [List.length_map]
  walk_at "go"
  refine ⟨fun hc => ?_, fun hc => ?_⟩
  · have hc := of_decide_eq_true hc
    obtain ⟨k9, hk9, e9⟩ := hK.last
    walk_at "go"
    refine XE.bm ?_
    walk_at "go"
    refine ⟨ty_lst (.raw .hd), ?_⟩
    walk_at "go"
    refine XR.ix_lst (.raw .hd) (at_last (DL.get_map hk9) (by rw [List.length_map]; omega)) ?_
    dsimp only [dKn]
    walk_at "go"
    walk_at "callD"
    walk_at "go"
    walk_at "sp2"
    refine ⟨s, l, _, _, rfl, hS, by omega, by decide, (by show Int.natAbs _ < 2 ^ 120; decide), fun r M1 r0 r1 hS => ?_⟩
    walk_at "go"
    rw [← dQ_one r0 r1]
    obtain ⟨w, w1, w2, ew⟩ := sixths r0 r1
    rw [ew]
    have zB : BQ 12 (((z : Int) : Rat) / 6) := ((BQ.int (n := 9) (show ((z : Nat) : Int).natAbs < 2 ^ 9 by omega) (by decide)).div (BQ.int (n := 3) (show Int.natAbs 6 < 2 ^ 3 by decide) (by decide)) (by decide +kernel)).mono (by decide)
    have wB : BQ 12 (((w : Int) : Rat) / 6) := ((BQ.int (n := 9) (show ((w : Nat) : Int).natAbs < 2 ^ 9 by omega) (by decide)).div (BQ.int (n := 3) (show Int.natAbs 6 < 2 ^ 3 by decide) (by decide)) (by decide +kernel)).mono (by decide)
    have sB : BQ 12 ((((z + w : Nat) : Int) : Rat) / 6) := ((BQ.int (n := 9) (show ((z + w : Nat) : Int).natAbs < 2 ^ 9 by omega) (by decide)).div (BQ.int (n := 3) (show Int.natAbs 6 < 2 ^ 3 by decide) (by decide)) (by decide +kernel)).mono (by decide)
    have tB : BQ 200 k9.1 := by
      rw [e9]
      exact (tlB.add zB).mono (by decide)
    refine ⟨rfl, _, u_L_sum (q := ((w : Int) : Rat) / 6) (by walk_at "bq") (by walk_at "bq"), ?_⟩
    have et : k9.1 + ((w : Int) : Rat) / 6 = kl.1 + (((z + w : Nat) : Int) : Rat) / 6 := by
      rw [e9, show (((z + w : Nat) : Int) : Rat) = ((z : Int) : Rat) + ((w : Int) : Rat) from by rw [← Rat.intCast_add]; rfl]
      rw [Rat.div_def, Rat.div_def, Rat.div_def]
      grind
    rw [et]
    walk_at "go"
    dsimp only [List.cons_append, List.nil_append]
    walk_at "callD"
    walk_at "go"
    walk_at "sp"
    refine ⟨s, l, _, pK, ks.map dKn, [(pF, .dct (ns.map fun n => (kN n, .lst ((kf n).map dKn))))], M1, rfl, rfl, hS, by omega, fun q => kne (List.map_eq_nil_iff.mp q), by rw [List.length_map]; omega, fun x M2 hx hS => ?_⟩
    obtain ⟨kp, hkp, rfl⟩ := List.mem_map.mp hx
    dsimp only [dKn]
    walk_at "go"
    refine XM.append .hd (by rw [List.length_map]; omega) ?_
    obtain ⟨g1, g2⟩ := first_snoc2 (x := (kl.1 + (((z + w : Nat) : Int) : Rat) / 6, kp.2)) kne
    have hw0 : (0 : Rat) < ((w : Int) : Rat) / 6 := by
      have : ((0 : Int) : Rat) < ((w : Int) : Rat) := Rat.intCast_lt_intCast.mpr (by omega)
      have h0 : (0 : Rat) < ((w : Int) : Rat) := this
      grind
    refine ⟨m - 1, by omega, rfl, ks ++ [(kl.1 + (((z + w : Nat) : Int) : Rat) / 6, kp.2)], M2, z + w, by rw [List.map_append]; rfl, hS.more (by rw [List.length_append]; simp; omega) (by rw [List.length_append]; simp; omega), by rw [List.length_append]; simp; omega, ⟨⟨⟨by simp, asc_snoc2 hK.kt.asc (fun k hk => ?_), by rw [List.length_append]; simp; omega⟩, fun k hk => ?_⟩, g1.trans hK.beg, g2.trans hK.fx, ⟨(kl.1 + (((z + w : Nat) : Int) : Rat) / 6, kp.2), by simp, rfl⟩⟩, by rw [List.length_append]; simp; omega⟩
    · rw [hk9] at hk
      cases hk
      show k9.1 < kl.1 + (((z + w : Nat) : Int) : Rat) / 6
      rw [← et]
      grind
    · rcases List.mem_append.mp hk with hk | hk
      · exact hK.kt.B k hk
      · rw [List.mem_singleton.mp hk]
        exact ⟨(tlB.add sB).mono (by decide), (hK.kt.B kp hkp).2⟩
  · have hc := of_decide_eq_false hc
    refine XS.seq ?_
    refine XS.dput (XE.varF rfl .hd ?_)
    walk_at "go"
    refine ⟨pF, _, kN nm, _, rfl, rfl, .hd, by rw [List.length_map]; omega, ?_⟩
    rw [put_fun (e := fun n => D.lst ((kf n).map dKn)) hm]
    refine XS.ret (XE.frz ?_)
    walk_at "go"
    refine ⟨pF, _, _, rfl, .hd, ?_⟩
    have e : (ns.map fun s => ((kN s, if s = nm then D.lst (ks.map dKn) else D.lst ((kf s).map dKn)) : Key × D)) = ns.map fun n => (kN n, D.lst (((fun m => if m = nm then ks else kf m) n).map dKn)) := List.map_congr_left fun n hn => by
      by_cases q : n = nm
      · simp only [if_pos q]
      · simp only [if_neg q]
    rw [e]
    exact hk _ M' (hL.upd hK.kt hK.beg hK.fx) (hS.more (by omega) (by omega))
end
end My

namespace My
open PySem L2 DL PyProof.Rows SX
local macro_rules | `(tactic| walk_at "bq") => `(tactic| first | exact BQ.mono (by assumption) (by decide) | exact BQ.mono (BQ.sub (by assumption) (by assumption)) (by decide) | exact BQ.mono (BQ.add (by assumption) (by assumption)) (by decide) | exact BQ.mono (BQ.mul (by assumption) (by assumption)) (by decide))
def LOK8 (L : Option Int) : Prop := ∀ l, L = some l → 1 ≤ l ∧ B 80 l
theorem LOK8.lok {L : Option Int} (h : LOK8 L) : LOK L := fun l hl => ⟨(h l hl).1, (h l hl).2.mono (by decide)⟩
def sp_L_loads : DSp := fun ds M k _ => ∃ (s l : Addr) (n many : Nat) (L : Option Int) (far : Int), ds = [.raw s, .int many, dL L, .int far] ∧ IsA s l n M ∧ n + 1000 ≤ 1000000000 ∧ 1 ≤ many ∧ many ≤ 12 ∧ LOK8 L ∧ 0 ≤ far ∧ B 100 far ∧ ∀ (b : Rat) (ns : List Str) (kf : Str → List Kn) M', Loads L b ns kf → ns.length = many → BQ 80 b → (∀ n ∈ ns, ∀ k ∈ kf n, BQ 110 k.1) → IsA s l (n + 1000) M' → k (dLds ns kf) M'
theorem mo_L_loads : MonoD sp_L_loads := fun _ _ _ _ _ _ hk _ ⟨s, l, n, m, z, e, e2, h1, h2, h3, h4, h5, h6, h7, q⟩ => ⟨s, l, n, m, z, e, e2, h1, h2, h3, h4, h5, h6, h7, fun r x y M' a b c d e => hk _ _ (q r x y M' a b c d e)⟩
/-- what one place on the grid is worth -/
structure UnitOk (L : Option Int) (around : Int) (u : Rat) : Prop where
  B : BQ 80 u
  div : ∀ p q : Int, isCon L (u * (p : Rat) - u * (q : Rat)) = true → ∃ z : Int, p - q = around * z
theorem unit_none {u : Rat} {a : Int} (hB : BQ 80 u) (hu : u ≠ 0) : UnitOk none a u := ⟨hB, fun p q h => by
  have h : u * (p : Rat) - u * (q : Rat) = 0 := of_decide_eq_true h
  have h2 : u * ((p : Rat) - (q : Rat)) = 0 := by grind
  rcases Rat.mul_eq_zero.mp h2 with h3 | h3
  · exact absurd h3 hu
  · refine ⟨0, ?_⟩
    have : (p : Rat) = (q : Rat) := by grind
    have := Rat.intCast_inj.mp this
    omega⟩
theorem unit_some {l a : Int} (hl : 1 ≤ l) (ha : 1 ≤ a) (ha2 : a ≤ 12) (hB : B 80 l) : UnitOk (some l) a (Rat.divInt l a) := ⟨BQ.divInt hB (show a.natAbs < 2 ^ 80 by omega) (by omega), fun p q h => by
  have h : ((Rat.divInt l a * (p : Rat) - Rat.divInt l a * (q : Rat)) / (l : Rat)).den = 1 := of_decide_eq_true h
  have h2 := den1.mp h
  have hl0 := cast_pos hl
  have ha0 := cast_pos ha
  generalize ((Rat.divInt l a * (p : Rat) - Rat.divInt l a * (q : Rat)) / (l : Rat)).floor = z at h2
  refine ⟨z, ?_⟩
  rw [Rat.divInt_eq_div] at h2
  have e1 : ((l : Rat) / (a : Rat) * (p : Rat) - (l : Rat) / (a : Rat) * (q : Rat)) / (l : Rat) * (l : Rat) = (l : Rat) / (a : Rat) * (p : Rat) - (l : Rat) / (a : Rat) * (q : Rat) := div_mul_self (by grind)
  have e2 : (l : Rat) / (a : Rat) * (a : Rat) = (l : Rat) := div_mul_self (by grind)
  rw [← h2] at e1
  have e3 : (l : Rat) * ((p : Rat) - (q : Rat) - (a : Rat) * (z : Rat)) = 0 := by
    have : (z : Rat) * (l : Rat) * (a : Rat) = (l : Rat) * ((p : Rat) - (q : Rat)) := by
      rw [e1]
      have : ((l : Rat) / (a : Rat) * (p : Rat) - (l : Rat) / (a : Rat) * (q : Rat)) * (a : Rat) = (l : Rat) / (a : Rat) * (a : Rat) * ((p : Rat) - (q : Rat)) := by grind
      rw [this, e2]
    grind
  rcases Rat.mul_eq_zero.mp e3 with e4 | e4
  · grind
  · have e5 : ((p - q : Int) : Rat) = ((a * z : Int) : Rat) := by
      rw [Rat.intCast_sub, Rat.intCast_mul]
      grind
    exact Rat.intCast_inj.mp e5⟩
theorem dQ_lit {q : Rat} {n d : Int} (h1 : q.num = n) (h2 : (q.den : Int) = d) : dQ q = .tup [.int n, .int d] := by
  unfold dQ
  rw [h1, h2]
/-- what the law makes of a load -/
structure KnOk (b u : Rat) (around spot : Int) (ks : List Kn) : Prop where
  kt : Kt ks
  beg : firstT ks = b
  fx : ∃ m : Int, firstX ks = u * ((spot + around * m : Int) : Rat)
  tm : ∀ k ∈ ks, BQ 110 k.1
/-- how far a place lies -/
def PlB (j : Nat) (pl : Int) : Prop := pl.natAbs ≤ (j + 1) * 2 ^ 104
theorem mulA {a : Nat} {m : Int} (ha : a ≤ 12) (hm : B 100 m) : ((a : Int) * m).natAbs ≤ 12 * 2 ^ 100 := by
  rw [Int.natAbs_mul, Int.natAbs_natCast]
  exact Nat.mul_le_mul ha (Nat.le_of_lt hm)
theorem PlB.first {a : Nat} {m sp : Int} (hs : 0 ≤ sp ∧ sp < a) (ha : a ≤ 12) (hm : B 100 m) : PlB 0 (sp + (a : Int) * m) := by
  have := mulA ha hm
  unfold PlB
  omega
theorem PlB.more {j : Nat} {p : Int} (h : PlB j p) : PlB (j + 1) p := Nat.le_trans h (Nat.mul_le_mul_right _ (Nat.le_succ _))
theorem small_dvd {a d q : Int} (h : d = a * q) (h1 : -a < d) (h2 : d < a) : d = 0 := by
  rcases Int.lt_trichotomy q 0 with hq | hq | hq
  · have := Int.mul_le_mul_of_nonneg_left (show q ≤ -1 by omega) (show (0 : Int) ≤ a by omega)
    omega
  · rw [h, hq, Int.mul_zero]
  · have := Int.mul_le_mul_of_nonneg_left (show 1 ≤ q by omega) (show (0 : Int) ≤ a by omega)
    omega
theorem PlB.step {j a : Nat} {p n m : Int} (h : PlB j p) (hn : n.natAbs ≤ 13) (ha : a ≤ 12) (hm : B 100 m) : PlB (j + 1) (p + n + (a : Int) * m) := by
  have := mulA ha hm
  unfold PlB at *
  omega
theorem PlB.Q {j : Nat} {p : Int} (h : PlB j p) (hj : j ≤ 6) : BQ 108 (p : Rat) := BQ.int (by
  unfold PlB at h
  show p.natAbs < 2 ^ 108
  omega) (by decide)
theorem smB {z : Int} (h : z.natAbs ≤ 13) : B 100 z := Nat.lt_of_le_of_lt h (by decide)
theorem tkB {r far : Int} (h0 : 0 ≤ r) (h1 : r < far + 1) (hf : B 100 far) : B 100 r := hf.le (by omega)
theorem pick_m {x : D} {r far : Int} (h : x ∈ [D.int 0, D.int 0, D.int 1, D.int (-1), D.int r]) (h0 : 0 ≤ r) (h1 : r < far + 1) (hf : B 100 far) : ∃ m : Int, x = .int m ∧ B 100 m := by
  simp only [List.mem_cons, List.not_mem_nil, or_false] at h
  rcases h with h | h | h | h | h
  · exact ⟨_, h, smB (by decide)⟩
  · exact ⟨_, h, smB (by decide)⟩
  · exact ⟨_, h, smB (by decide)⟩
  · exact ⟨_, h, smB (by decide)⟩
  · exact ⟨_, h, tkB h0 h1 hf⟩
theorem pick_rd {x : D} {r q far : Int} (h : x ∈ [D.int 0, D.int 0, D.int 0, D.int r, D.int (0 - q)]) (h0 : 0 ≤ r) (h1 : r < far + 1) (h2 : 0 ≤ q) (h3 : q < far + 1) (hf : B 100 far) : ∃ m : Int, x = .int m ∧ B 100 m := by
  simp only [List.mem_cons, List.not_mem_nil, or_false] at h
  rcases h with h | h | h | h | h
  · exact ⟨_, h, smB (by decide)⟩
  · exact ⟨_, h, smB (by decide)⟩
  · exact ⟨_, h, smB (by decide)⟩
  · exact ⟨_, h, tkB h0 h1 hf⟩
  · exact ⟨_, h, (tkB h2 h3 hf).le (by omega)⟩
theorem pick_near {x : D} {a : Nat} {q : Int} (h : x ∈ [D.int 0, D.int 0, D.int 1, D.int (-1), D.int 2, D.int (-3), D.int 5, D.int (-7), D.int a, D.int (0 - a), D.int (q - 12)]) (ha : a ≤ 12) (h0 : 0 ≤ q) (h1 : q < 25) : ∃ m : Int, x = .int m ∧ m.natAbs ≤ 13 := by
  simp only [List.mem_cons, List.not_mem_nil, or_false] at h
  rcases h with h | h | h | h | h | h | h | h | h | h | h <;> exact ⟨_, h, by omega⟩
theorem asc_snoc {ks : List Kn} {x : Kn} (h : Asc ks) (hx : ∀ k ∈ ks, k.1 < x.1) : Asc (ks ++ [x]) := fun i a b h1 h2 => by
  by_cases hi : i + 1 < ks.length
  · rw [List.getElem?_append_left (by omega)] at h1
    rw [List.getElem?_append_left hi] at h2
    exact h i a b h1 h2
  · have hl : i + 1 < (ks ++ [x]).length := (List.getElem?_eq_some_iff.mp h2).1
    rw [List.length_append] at hl
    have hl : i + 1 = ks.length := by
      have : [x].length = 1 := rfl
      omega
    rw [List.getElem?_append_left (by omega)] at h1
    rw [List.getElem?_append_right (by omega), show i + 1 - ks.length = 0 by omega] at h2
    cases h2
    exact hx a (List.mem_of_getElem? h1)
theorem first_snoc {ks : List Kn} {x : Kn} (h : ks ≠ []) : firstT (ks ++ [x]) = firstT ks ∧ firstX (ks ++ [x]) = firstX ks := by
  cases ks with
  | nil => exact absurd rfl h
  | cons k r => exact ⟨rfl, rfl⟩
theorem loads_ok {L : Option Int} {b u : Rat} {ar many : Nat} {ns : List Str} {sps : List Int} {kf : Str → List Kn} (hu : UnitOk L ar u) (hL : LOK L) (bB : BQ 80 b) (h1 : 1 ≤ many) (h2 : many ≤ 12) (nl : ns.length = many) (sl : sps.length = many) (nd : ns.Nodup) (snd : sps.Nodup) (nok : ∀ x ∈ ns, NameOk x) (srg : ∀ x ∈ sps, 0 ≤ x ∧ x < ar)
    (h : ∀ j nm sp, j < many → ns[j]? = some nm → sps[j]? = some sp → KnOk b u ar sp (kf nm)) : Loads L b ns kf := by
  have get : ∀ n ∈ ns, ∃ j sp, ns[j]? = some n ∧ sps[j]? = some sp ∧ KnOk b u ar sp (kf n) := fun n hn => by
    obtain ⟨j, hj⟩ := List.getElem?_of_mem hn
    have hjl := (List.getElem?_eq_some_iff.mp hj).1
    have hs : sps[j]? = some sps[j] := List.getElem?_eq_getElem (by omega)
    exact ⟨j, _, hj, hs, h j n _ (by omega) hj hs⟩
  refine ⟨fun z => by rw [z] at nl; simp at nl; omega, by omega, nd, nok, fun n hn => ?_, fun n hn => ?_, bB.mono (by decide), hL, fun m hm n hn hne => ?_⟩
  · obtain ⟨j, sp, _, _, k⟩ := get n hn
    exact k.kt
  · obtain ⟨j, sp, _, _, k⟩ := get n hn
    exact k.beg
  · obtain ⟨j1, sp1, a1, c1, k1⟩ := get m hm
    obtain ⟨j2, sp2, a2, c2, k2⟩ := get n hn
    cases hc : isCon L (firstX (kf m) - firstX (kf n)) with
    | false => rfl
    | true =>
      exfalso
      obtain ⟨m1, e1⟩ := k1.fx
      obtain ⟨m2, e2⟩ := k2.fx
      rw [e1, e2] at hc
      obtain ⟨z, hz⟩ := hu.div _ _ hc
      have r1 := srg sp1 (List.mem_of_getElem? c1)
      have r2 := srg sp2 (List.mem_of_getElem? c2)
      have e3 : sp1 - sp2 = (ar : Int) * (z - m1 + m2) := by
        rw [Int.mul_add, Int.mul_sub]
        omega
      have e4 := small_dvd e3 (by omega) (by omega)
      have e5 : sp1 = sp2 := by omega
      have e6 : j1 = j2 := by
        obtain ⟨b1, d1⟩ := List.getElem?_eq_some_iff.mp c1
        obtain ⟨b2, d2⟩ := List.getElem?_eq_some_iff.mp c2
        rcases Nat.lt_trichotomy j1 j2 with q | q | q
        · exact absurd (d1.trans (e5.trans d2.symm)) (List.pairwise_iff_getElem.mp snd j1 j2 b1 b2 q)
        · exact q
        · exact absurd (d2.trans (e5.symm.trans d1.symm)) (List.pairwise_iff_getElem.mp snd j2 j1 b2 b1 q)
      rw [e6, a2] at a1
      exact hne (Option.some.inj a1).symm
local macro_rules | `(tactic| walk_at "go") => `(tactic| repeat (first
  | ((with_reducible refine idE ?_); first
    | ((with_reducible apply XE.var); · exact rfl)
    | (with_reducible first
      | refine XE.op ?_
      | refine XE.int ?_
      | refine XE.str ?_
      | refine XE.ite ?_
      | refine XE.cb ?_
      | refine XE.tup ?_
      | refine XE.bl ?_
      | refine XE.non ?_
      | refine XE.ty ?_
      | refine XE.un ?_
      | refine XE.andV ?_
      | refine XE.orV ?_
      | refine XE.notV ?_
      | refine XE.slice ?_
      | refine XE.chain ?_))
  | ((with_reducible refine idE ?_); (with_reducible refine XE.callP ?_ (fun _ => rfl) (dD := []) (fun _ => .nil) ?_); (focus (first | with_reducible exact mo_R | walk_at "mo")))
  | ((with_reducible refine idE ?_); (with_reducible refine XE.methP ?_ (fun _ => rfl) (dD := []) (fun _ => .nil) ?_); (focus (first | with_reducible exact mo_R | walk_at "mo")))
  | ((with_reducible refine idE ?_); (with_reducible refine XE.callT mo_R (fun _ => rfl) (dD := []) (fun _ => .nil) ?_))
  | ((with_reducible refine idE ?_); (with_reducible refine XE.callNP ?_ (fun _ => rfl) ?_); (focus (first | with_reducible exact mo_R | walk_at "mo")))
  | ((with_reducible refine idE ?_); (with_reducible refine XE.callNTP mo_R (fun _ => rfl) ?_))
  | ((with_reducible refine idA ?_); with_reducible first
      | refine XA.nil ?_
      | refine XA.cons ?_)
  | ((with_reducible refine idR ?_); first
      | (with_reducible first
        | refine XR.add_int ?_
        | refine XR.eq_int ?_
        | refine XR.ne_int ?_
        | refine XR.i0 ?_
        | refine XR.subB ?_
        | refine XR.ne_dQ ?_
        | refine XR.eq_dQ ?_
        | refine XR.b0 ?_
        | refine XR.isN ?_
        | refine XR.ntN ?_)
      | refine XR.ix_tup rfl ?_
      | refine XR.ix_lst (by first | exact LsAt.lst | exact LsAt.raw At.hd) rfl ?_)
  | ((with_reducible refine idS ?_); with_reducible first
      | refine XS.seq ?_
      | refine XS.asg ?_
      | refine XS.ret ?_
      | refine XS.ifs ?_
      | refine XS.next ?_
      | refine XS.drop ?_
      | refine XS.par ?_
      | refine XS.par3 ?_)
  | ((with_reducible refine idT ?_); with_reducible first
      | refine XT.tst ?_
      | refine XT.bool ?_
      | refine XT.and ?_
      | refine XT.or ?_
      | refine XT.not ?_)
  | ((with_reducible refine idT ?_); refine XT.yes ?_)
  | ((with_reducible refine idS ?_); refine XS.aug rfl ?_)
  | with_reducible refine ex1 ?_
  | refine pickF rfl ?_
  | refine pickT rfl ?_
  | ((with_reducible refine idO ?_); with_reducible first
      | refine XO.none ?_
      | refine XO.some ?_)
  | ((with_reducible refine idGs ?_); with_reducible first
      | refine XGs.nil ?_
      | refine XGs.cons ?_)
  | ((with_reducible refine idG ?_); with_reducible first
      | refine XG.name (by simp) ?_
      | refine XG.tup rfl ?_)
  | with_reducible refine XC.abs ?_
  | with_reducible refine XU.neg ?_
  | refine ⟨_, _, rfl, ?_⟩
  | refine ⟨_, _, _, rfl, ?_⟩
  | refine ⟨_, rfl, ?_⟩
  | refine ⟨show (_ : Nat) + 1 ≤ 16000000 by simp only [List.length_cons, List.length_nil] <;> decide, ?_⟩
  | refine ⟨show (0 : Nat) ≤ 16000000 by decide, ?_⟩
  | refine ⟨rfl, rfl, rfl, _, (by walk_at "use"), ?_⟩
  | refine ⟨rfl, rfl, rfl, (by walk_at "tab"), _, (by walk_at "use"), ?_⟩
  | refine ⟨rfl, (by walk_at "tab"), _, (by walk_at "use"), ?_⟩
  | refine ⟨_, .ins, rfl, ?_⟩
  | ((refine ⟨rfl, ?_⟩); (with_reducible refine u_is_lessA ?_ ?_ ?_); (focus walk_at "bq"); (focus walk_at "bq"))
  | ((refine ⟨rfl, ?_⟩); (with_reducible refine u_sum_ofA ?_ ?_ ?_); (focus walk_at "bq"); (focus walk_at "bq"))
  | ((refine ⟨rfl, ?_⟩); (with_reducible refine u_rest_ofA ?_ ?_ ?_); (focus walk_at "bq"); (focus walk_at "bq"))
  | ((refine ⟨rfl, ?_⟩); (with_reducible refine u_product_ofA ?_ ?_ ?_); (focus walk_at "bq"); (focus walk_at "bq"))
  | refine ⟨rfl, _, (by walk_at "use"), ?_⟩
  | dsimp only [List.set_cons_zero, List.set_cons_succ]))
local macro_rules | `(tactic| walk_at "sp") => `(tactic| first | refine ⟨[], _, rfl, rfl, ?_⟩ | refine ⟨rfl, ?_⟩)
local macro_rules | `(tactic| walk_at "tab") => `(tactic| first | exact .hd | exact .tl .hd | exact .tl (.tl .hd) | exact .tl (.tl (.tl .hd)))
local macro_rules | `(tactic| walk_at "sp1") => `(tactic| first | refine ⟨[_], _, rfl, rfl, ?_⟩ | refine ⟨rfl, ?_⟩)
local macro_rules | `(tactic| walk_at "sp2") => `(tactic| first | refine ⟨[_, _], _, rfl, rfl, ?_⟩ | refine ⟨rfl, ?_⟩)

local macro_rules | `(tactic| walk_at "mo") => `(tactic| first | exact mo_L_take | exact mo_L_pick | exact mo_L_number | exact mo_L_part | exact mo_L_step | exact mo_L_lot | exact mo_L_names)
local macro_rules | `(tactic| walk_at "callD") => `(tactic| (refine XE.call (by walk_at "mo") (fun _ => rfl) (dD := []) (fun _ => .nil) ?_))
local macro_rules | `(tactic| walk_at "use") => `(tactic| (try dsimp only [List.cons_append, List.nil_append, List.append_nil]); first | ((with_reducible apply u_L_sum) <;> first | assumption | walk_at "bq") | exact u_L_sum (by walk_at "bq") (by walk_at "bq"))
section
variable {P : Program} {w : World} {K : PySem.W.Frag} {mg : Str → Option Value} {base : Heap}
theorem ok_L_loads (T : Txt K mg) : FnOk P w K mg base (L2.CX P w) 5 T.L_loads.a T.L_loads.fd ["draw", "many", "ring", "far"] (spD K 4 (sp_L_loads)) := by
  refine fn_okD T.L_loads.F sc_L_loads rfl fun cdv A outer s H E hr => ?_
  have nd := sc_L_loads.nd
  have hu64 := hr.units
  have hu65 := hu65_of hr
  have hu1 := hu_of hr
  refine ⟨_, (pss_cons (ps_set (i := 4) nd rfl (by first | exact Or.inl rfl | exact Or.inr rfl) (pe_ifExp (pt_cmpR op_isN' (pv 2) pe_non (nomark _)) pe_int (pe_call (ok_L_pick T) (hr.mono (by decide)) rfl T.L_pick.g T.L_pick.F.kp (b_L_pick T) .nil px0 (pa_cons (pv 0) (pa_cons (pe_lst (pa_cons (pv 1) (pa_cons pe_int (pa_cons pe_int pa_nil)))) pa_nil)))))
      (pss_cons (ps_set (i := 5) nd rfl (by first | exact Or.inl rfl | exact Or.inr rfl) (pe_ifExp (pt_cmpR op_isN' (pv 2) pe_non (nomark _)) (pe_call (ok_L_pick T) (hr.mono (by decide)) rfl T.L_pick.g T.L_pick.F.kp (b_L_pick T) .nil px0 (pa_cons (pv 0) (pa_cons (pe_lst (pa_cons (pe_tup (pa_cons pe_int (pa_cons pe_int pa_nil))) (pa_cons (pe_tup (pa_cons pe_int (pa_cons pe_int pa_nil))) (pa_cons (pe_tup (pa_cons pe_int (pa_cons pe_int pa_nil))) pa_nil)))) pa_nil))) (pe_call (ok_L_f T) (hr.mono (by decide)) rfl T.L_f.g T.L_f.F.kp (b_L_f T) .nil px0 (pa_cons (pv 2) (pa_cons (pv 4) pa_nil)))))
      (pss_cons (ps_par (i := 6) (j := 7) rfl nd rfl rfl (by decide) rfl rfl (pa_cons (pe_call (ok_L_part T) (hr.mono (by decide)) rfl T.L_part.g T.L_part.F.kp (b_L_part T) .nil px0 (pa_cons (pv 0) pa_nil)) (pa_cons (pe_call (ok_L_pick T) (hr.mono (by decide)) rfl T.L_pick.g T.L_pick.F.kp (b_L_pick T) .nil px0 (pa_cons (pv 0) (pa_cons (pe_lst (pa_cons (pe_tup (pa_cons pe_int (pa_cons pe_int pa_nil))) (pa_cons (pe_tup (pa_cons pe_int (pa_cons pe_int pa_nil))) (pa_cons (pe_tup (pa_cons pe_int (pa_cons pe_int pa_nil))) pa_nil)))) pa_nil))) pa_nil)) (by rfl))
      (pss_cons (ps_par (i := 8) (j := 9) rfl nd rfl rfl (by decide) rfl rfl (pa_cons (pe_call (ok_L_lot T) (hr.mono (by decide)) rfl T.L_lot.g T.L_lot.F.kp (b_L_lot T) .nil px0 (pa_cons (pv 0) (pa_cons (pv 1) (pa_cons (pv 4) pa_nil)))) (pa_cons pe_dnewK pa_nil)) (by rfl))
      (pss_cons (ps_for (passes_of rfl) rfl (pi_zipK (K := K) rfl (by rfl) T.m_zip (pa_cons (pe_call (ok_L_names T) (hr.mono (by decide)) rfl T.L_names.g T.L_names.F.kp (b_L_names T) .nil px0 (pa_cons (pv 0) (pa_cons (pv 1) pa_nil))) (pa_cons (pv 8) pa_nil))) (pg_tupK (K := K) (n := 2) rfl rfl (pgs_cons (pg_name (i := 10) nd rfl (by first | exact Or.inl rfl | exact Or.inr rfl)) (pgs_cons (pg_name (i := 11) nd rfl (by first | exact Or.inl rfl | exact Or.inr rfl)) pgs_nil)))
      (pss_cons (ps_set (i := 12) nd rfl (by first | exact Or.inl rfl | exact Or.inr rfl) (pe_op (op_addK (K := K) rfl) (pv 11) (pe_op op_mulW (pv 4) (pe_call (ok_L_pick T) (hr.mono (by decide)) rfl T.L_pick.g T.L_pick.F.kp (b_L_pick T) .nil px0 (pa_cons (pv 0) (pa_cons (pe_lst (pa_cons pe_int (pa_cons pe_int (pa_cons pe_int (pa_cons (pe_un un_neg pe_int) (pa_cons (pe_call (ok_L_take T) (hr.mono (by decide)) rfl T.L_take.g T.L_take.F.kp (b_L_take T) .nil px0 (pa_cons (pv 0) (pa_cons (pe_op (op_addK (K := K) rfl) (pv 3) pe_int) pa_nil))) pa_nil)))))) pa_nil))))))
      (pss_cons (ps_set (i := 13) nd rfl (by first | exact Or.inl rfl | exact Or.inr rfl) (pe_lst (pa_cons (pe_tup (pa_cons (pv 6) (pa_cons (pe_call (ok_L_product T) (hr.mono (by decide)) rfl T.L_product.g T.L_product.F.kp (b_L_product T) .nil px0 (pa_cons (pv 5) (pa_cons (pe_tup (pa_cons (pv 12) (pa_cons pe_int pa_nil))) pa_nil))) pa_nil))) pa_nil)))
      (pss_cons (ps_for (passes_of rfl) rfl (pi_range2 rfl T.m_range (pa_cons pe_int (pa_cons (pe_call (ok_L_pick T) (hr.mono (by decide)) rfl T.L_pick.g T.L_pick.F.kp (b_L_pick T) .nil px0 (pa_cons (pv 0) (pa_cons (pe_lst (pa_cons pe_int (pa_cons pe_int (pa_cons pe_int (pa_cons pe_int (pa_cons pe_int pa_nil)))))) pa_nil))) pa_nil))) (pg_name (i := 14) nd rfl (by first | exact Or.inl rfl | exact Or.inr rfl))
      (pss_one (ps_if (pt_cmpR op_gt (pe_call (ok_L_take T) (hr.mono (by decide)) rfl T.L_take.g T.L_take.F.kp (b_L_take T) .nil px0 (pa_cons (pv 0) (pa_cons pe_int pa_nil))) pe_int (nomark _))
      (pss_cons (ps_set (i := 15) nd rfl (by first | exact Or.inl rfl | exact Or.inr rfl) (pe_lst (pa_cons pe_int (pa_cons pe_int (pa_cons pe_int (pa_cons (pe_un un_neg pe_int) (pa_cons pe_int (pa_cons (pe_un un_neg pe_int) (pa_cons pe_int (pa_cons (pe_un un_neg pe_int) (pa_cons (pv 4) (pa_cons (pe_op op_sub pe_int (pv 4)) (pa_cons (pe_op op_sub (pe_call (ok_L_take T) (hr.mono (by decide)) rfl T.L_take.g T.L_take.F.kp (b_L_take T) .nil px0 (pa_cons (pv 0) (pa_cons pe_int pa_nil))) pe_int) pa_nil)))))))))))))
      (pss_cons (ps_set (i := 16) nd rfl (by first | exact Or.inl rfl | exact Or.inr rfl) (pe_lst (pa_cons pe_int (pa_cons pe_int (pa_cons pe_int (pa_cons (pe_call (ok_L_take T) (hr.mono (by decide)) rfl T.L_take.g T.L_take.F.kp (b_L_take T) .nil px0 (pa_cons (pv 0) (pa_cons (pe_op (op_addK (K := K) rfl) (pv 3) pe_int) pa_nil))) (pa_cons (pe_op op_sub pe_int (pe_call (ok_L_take T) (hr.mono (by decide)) rfl T.L_take.g T.L_take.F.kp (b_L_take T) .nil px0 (pa_cons (pv 0) (pa_cons (pe_op (op_addK (K := K) rfl) (pv 3) pe_int) pa_nil)))) pa_nil)))))))
      (pss_cons (ps_set (i := 12) nd rfl (by first | exact Or.inl rfl | exact Or.inr rfl) (pe_op (op_addK (K := K) rfl) (pe_op (op_addK (K := K) rfl) (pv 12) (pe_call (ok_L_pick T) (hr.mono (by decide)) rfl T.L_pick.g T.L_pick.F.kp (b_L_pick T) .nil px0 (pa_cons (pv 0) (pa_cons (pv 15) pa_nil)))) (pe_op op_mulW (pv 4) (pe_call (ok_L_pick T) (hr.mono (by decide)) rfl T.L_pick.g T.L_pick.F.kp (b_L_pick T) .nil px0 (pa_cons (pv 0) (pa_cons (pv 16) pa_nil))))))
      (pss_one (ps_expr (pe_bmK (K := K) rfl PySem.F.plainAttrs_list PySem.F.slot_list_append PySem.F.type_list_append mt_append (pv 13) (pa_cons (pe_tup (pa_cons (pe_call (ok_L_sum T) (hr.mono (by decide)) rfl T.L_sum.g T.L_sum.F.kp (b_L_sum T) .nil px0 (pa_cons (pv 6) (pa_cons (pe_call (ok_L_product T) (hr.mono (by decide)) rfl T.L_product.g T.L_product.F.kp (b_L_product T) .nil px0 (pa_cons (pv 7) (pa_cons (pe_tup (pa_cons (pv 14) (pa_cons pe_int pa_nil))) pa_nil))) pa_nil))) (pa_cons (pe_call (ok_L_product T) (hr.mono (by decide)) rfl T.L_product.g T.L_product.F.kp (b_L_product T) .nil px0 (pa_cons (pv 5) (pa_cons (pe_tup (pa_cons (pv 12) (pa_cons pe_int pa_nil))) pa_nil))) pa_nil))) pa_nil)))))))
      pss_nil)))
      (pss_one (ps_dput hu1 (pv 9) (pv 10) (pv 13) rfl))))))
      (pss_one (ps_ret (pe_frz (pv 9))))))))), fun ds M kk xx hl h => ?_⟩
  try dsimp only [cxOf]
  obtain ⟨s, l, n, many, L, far, rfl, hS, hn, hm1, hm2, hL8, hf0, hfB, hk⟩ := h
  refine XS.cut (fun ds M => (∃ (ar : Nat) (a b c d e f g h i j k p : Option D), ds = [some (.raw s), some (.int many), some (dL L), some (.int far), some (.int ar), a, b, c, d, e, f, g, h, i, j, k, p] ∧ many ≤ ar ∧ ar ≤ 12) ∧ IsA s l (n + 1) M) ?_ ?_
  · cases L with
    | none =>
      dsimp only [dL]
      walk_at "go"
      exact ⟨⟨12, _, _, _, _, _, _, _, _, _, _, _, _, rfl, hm2, by omega⟩, hS.more (by omega) (by omega)⟩
    | some lv =>
      dsimp only [dL]
      walk_at "go"
      walk_at "callD"
      walk_at "go"
      refine XE.lstF ?_
      walk_at "go"
      walk_at "sp"
      refine ⟨s, l, _, _, _, rfl, hS, by omega, .lst, by simp, by simp, fun x M1 hx hS => ?_⟩
      obtain ⟨ar, rfl, ha1, ha2⟩ : ∃ ar : Nat, x = .int ar ∧ many ≤ ar ∧ ar ≤ 12 := by
        simp only [List.mem_cons, List.not_mem_nil, or_false] at hx
        rcases hx with h | h | h
        · exact ⟨many, h, Nat.le_refl _, hm2⟩
        · exact ⟨12, h, hm2, Nat.le_refl _⟩
        · exact ⟨12, h, hm2, Nat.le_refl _⟩
      exact ⟨⟨ar, _, _, _, _, _, _, _, _, _, _, _, _, rfl, ha1, ha2⟩, hS⟩
  rintro _ M ⟨⟨ar, x1, x2, x3, x4, x5, x6, x7, x8, x9, x10, x11, x12, rfl, ha1, ha2⟩, hS⟩
  have hlen2 : B 4 (ar : Int) := show (ar : Int).natAbs < 2 ^ 4 by omega
  refine XS.cut (fun ds M => (∃ (u : Rat) (b c d e f g h i j k p : Option D), ds = [some (.raw s), some (.int many), some (dL L), some (.int far), some (.int ar), some (dQ u), b, c, d, e, f, g, h, i, j, k, p] ∧ UnitOk L ar u) ∧ IsA s l (n + 2) M) ?_ ?_
  · cases L with
    | none =>
      dsimp only [dL]
      walk_at "go"
      walk_at "callD"
      walk_at "go"
      refine XE.lstF ?_
      walk_at "go"
      walk_at "sp"
      refine ⟨s, l, _, _, _, rfl, hS, by omega, .lst, by simp, by simp, fun x M1 hx hS => ?_⟩
      obtain ⟨u, rfl, hu⟩ : ∃ u : Rat, x = dQ u ∧ UnitOk none ar u := by
        simp only [List.mem_cons, List.not_mem_nil, or_false] at hx
        rcases hx with h | h | h
        · exact ⟨1, h, unit_none ⟨B.one (by decide), B.one (by decide)⟩ (by decide +kernel)⟩
        · exact ⟨1 / 2, h.trans (dQ_lit (by decide +kernel) (by decide +kernel)).symm, unit_none ⟨show Int.natAbs _ < _ by decide +kernel, show Int.natAbs _ < _ by decide +kernel⟩ (by decide +kernel)⟩
        · exact ⟨5 / 3, h.trans (dQ_lit (by decide +kernel) (by decide +kernel)).symm, unit_none ⟨show Int.natAbs _ < _ by decide +kernel, show Int.natAbs _ < _ by decide +kernel⟩ (by decide +kernel)⟩
      exact ⟨⟨u, _, _, _, _, _, _, _, _, _, _, _, rfl, hu⟩, hS⟩
    | some lv =>
      obtain ⟨h1, h2⟩ := hL8 lv rfl
      dsimp only [dL]
      walk_at "go"
      refine ⟨rfl, _, u_L_f (by omega) (hlen2.mono (by decide)), ?_⟩
      exact ⟨⟨_, _, _, _, _, _, _, _, _, _, _, _, rfl, unit_some h1 (by omega) (by omega) h2⟩, hS.more (by omega) (by omega)⟩
  rintro _ M ⟨⟨u, x1, x2, x3, x4, x5, x6, x7, x8, x9, x10, x11, rfl, hu⟩, hS⟩
  walk_at "go"
  walk_at "callD"
  walk_at "go"
  walk_at "sp"
  refine ⟨s, l, _, rfl, hS, by omega, fun b M1 bB hS => ?_⟩
  walk_at "go"
  walk_at "callD"
  walk_at "go"
  refine XE.lstF ?_
  walk_at "go"
  walk_at "sp"
  refine ⟨s, l, _, _, _, rfl, hS, by omega, .lst, by simp, by simp, fun x M1 hx hS => ?_⟩
  obtain ⟨st, rfl, stB, st0⟩ : ∃ u : Rat, x = dQ u ∧ BQ 10 u ∧ 0 < u := by
    simp only [List.mem_cons, List.not_mem_nil, or_false] at hx
    rcases hx with h | h | h
    · exact ⟨1, h, ⟨B.one (by decide), B.one (by decide)⟩, by decide +kernel⟩
    · exact ⟨1 / 3, h.trans (dQ_lit (by decide +kernel) (by decide +kernel)).symm, ⟨show Int.natAbs _ < _ by decide +kernel, show Int.natAbs _ < _ by decide +kernel⟩, by decide +kernel⟩
    · exact ⟨7 / 2, h.trans (dQ_lit (by decide +kernel) (by decide +kernel)).symm, ⟨show Int.natAbs _ < _ by decide +kernel, show Int.natAbs _ < _ by decide +kernel⟩, by decide +kernel⟩
  walk_at "go"
  walk_at "callD"
  walk_at "go"
  walk_at "sp"
  refine ⟨s, l, _, many, ar, rfl, hS, by omega, ha1, ha2, fun sps M1 sl snd srg hS => ?_⟩
  walk_at "go"
  refine XE.dnewM fun pD hpD => ?_
  walk_at "go"
  refine XS.for [10, 11] (XI.zip ?_)
  walk_at "go"
  walk_at "callD"
  walk_at "go"
  walk_at "sp1"
  refine ⟨s, l, _, many, rfl, hS, by omega, hm2, fun ns M1 nl nnd nok hS => ?_⟩
  walk_at "go"
  refine ⟨_, _, _, _, rfl, .inl ⟨rfl, rfl⟩, fun i ds M => (∃ b1 c d e f g h : Option D, ds = [some (.raw s), some (.int many), some (dL L), some (.int far), some (.int ar), some (dQ u), some (dQ b), some (dQ st), some (.lst (sps.map D.int)), some (.raw pD), b1, c, d, e, f, g, h]) ∧ ∃ (kf : Str → List Kn) (M' : Mem), M = (pD, .dct ((ns.take i).map fun n => (kN n, .lst ((kf n).map dKn)))) :: M' ∧ IsA s l (n + 100 + 50 * i) M' ∧ ∀ j nm sp, j < i → ns[j]? = some nm → sps[j]? = some sp → KnOk b u ar sp (kf nm), ⟨⟨_, _, _, _, _, _, _, rfl⟩, fun _ => [], _, rfl, hS.more (by omega) (by omega), fun j _ _ hj => absurd hj (Nat.not_lt_zero _)⟩, ?_, ?_⟩
  · rintro i x _ M hx ⟨⟨y1, y2, y3, y4, y5, y6, y7, rfl⟩, kf, M', rfl, hS, hkf⟩
    obtain ⟨d1, d2, e1, e2, rfl⟩ := zipD_get hx
    obtain ⟨nm, hnm, rfl⟩ := map_get e1
    obtain ⟨sp, hsp, rfl⟩ := map_get e2
    have hi : i < many := by rw [← nl]; exact (List.getElem?_eq_some_iff.mp hnm).1
    have hsr := srg sp (List.mem_of_getElem? hsp)
    have far1 : B 120 (far + 1) := (hfB.add (B.one (n := 1) (by decide))).mono (by decide)
    walk_at "go"
    walk_at "callD"
    walk_at "go"
    refine XE.lstF ?_
    walk_at "go"
    walk_at "callD"
    walk_at "go"
    walk_at "sp1"
    refine ⟨s, l, _, _, rfl, hS, by omega, by omega, far1, fun r M1 r0 r1 hS => ?_⟩
    walk_at "go"
    walk_at "sp1"
    refine ⟨s, l, _, _, _, rfl, hS, by omega, .lst, by simp, by simp, fun x M1 hx hS => ?_⟩
    obtain ⟨m, rfl, mB⟩ := pick_m hx r0 r1 hfB
    walk_at "go"
    refine XR.i (hlen2.mulOk mB (by decide) (by decide) (by decide)) ?_
    walk_at "go"
    have p0B : PlB 0 (sp + (ar : Int) * m) := PlB.first hsr ha2 mB
    have hp0 : ∃ m : Int, sp + (ar : Int) * m = sp + (ar : Int) * m := ⟨m, rfl⟩
    have hp0 : ∃ m2 : Int, sp + (ar : Int) * m = sp + (ar : Int) * m2 := ⟨m, rfl⟩
    generalize sp + (ar : Int) * m = p0 at p0B hp0
    have p0Q : BQ 108 (p0 : Rat) := p0B.Q (by decide)
    have uB := hu.B
    refine XE.lstM ?_
    walk_at "go"
    refine ⟨rfl, _, u_L_product (q := (p0 : Rat)) (by walk_at "bq") (by walk_at "bq"), ?_⟩
    walk_at "go"
    intro pK hpK
    walk_at "go"
    refine XS.for [14] (XI.rng2 ?_)
    walk_at "go"
    walk_at "callD"
    walk_at "go"
    refine XE.lstF ?_
    walk_at "go"
    walk_at "sp2"
    refine ⟨s, l, _, _, _, rfl, hS, by omega, .lst, by simp, by simp, fun x M1 hx hS => ?_⟩
    obtain ⟨c, rfl, hc⟩ : ∃ c : Int, x = .int c ∧ 1 ≤ c ∧ c ≤ 7 := by
      simp only [List.mem_cons, List.not_mem_nil, or_false] at hx
      rcases hx with h | h | h | h | h <;> exact ⟨_, h, by omega⟩
    walk_at "go"
    refine ⟨⟨by decide, by decide, by omega, by omega⟩, fun j ds M => (∃ (pl : Int) (f g h : Option D), ds = [some (.raw s), some (.int many), some (dL L), some (.int far), some (.int ar), some (dQ u), some (dQ b), some (dQ st), some (.lst (sps.map D.int)), some (.raw pD), some (.str nm), some (.int sp), some (.int pl), some (.raw pK), f, g, h] ∧ PlB j pl) ∧ ∃ (kn : List Kn) (M' : Mem), M = (pK, .lst (kn.map dKn)) :: (pD, .dct ((ns.take i).map fun n => (kN n, .lst ((kf n).map dKn)))) :: M' ∧ IsA s l (n + 104 + 50 * i + 6 * j) M' ∧ kn ≠ [] ∧ Asc kn ∧ (∀ k ∈ kn, ∃ q : Nat, q ≤ j ∧ k.1 = b + st * ((q : Int) : Rat)) ∧ firstT kn = b ∧ firstX kn = u * (p0 : Rat) ∧ BKs 200 kn ∧ kn.length ≤ j + 1, ⟨⟨p0, _, _, _, rfl, p0B⟩, [(b, u * (p0 : Rat))], _, rfl, hS.more (by omega) (by omega), by simp, fun i a c h1 h2 => by simp at h2, ?_, rfl, rfl, ?_, Nat.le_refl _⟩, ?_, ?_⟩
    · intro k hk
      rw [List.mem_singleton.mp hk]
      exact ⟨0, Nat.le_refl _, by
        show b = b + st * ((0 : Int) : Rat)
        have : ((0 : Int) : Rat) = 0 := rfl
        rw [this]
        grind⟩
    · intro k hk
      rw [List.mem_singleton.mp hk]
      exact ⟨bB.mono (by decide), (uB.mul p0Q).mono (by decide)⟩
    · rintro j x _ M hx ⟨⟨pl, y1, y2, y3, rfl, hpl⟩, kn, M', rfl, hS, kne, kasc, ktm, kft, kfx, kB, klen⟩
      rw [rngD_get] at hx
      split at hx
      rotate_left
      · cases hx
      rename_i hj
      cases hx
      have hj : j < 6 := by omega
      have ktm2 : ∀ k ∈ kn, ∃ q : Nat, q ≤ j + 1 ∧ k.1 = b + st * ((q : Int) : Rat) := fun k hk => by
        obtain ⟨q, q1, q2⟩ := ktm k hk
        exact ⟨q, by omega, q2⟩
      walk_at "go"
      walk_at "callD"
      walk_at "go"
      walk_at "sp2"
      refine ⟨s, l, _, _, rfl, hS, by omega, by decide, (by show Int.natAbs _ < 2 ^ 120; decide), fun r4 M1 r40 r41 hS => ?_⟩
      walk_at "go"
      refine ⟨fun hb => ?_, fun hb => ?_⟩
      rotate_left
      · walk_at "go"
        exact ⟨⟨pl, _, _, _, rfl, hpl.more⟩, kn, _, rfl, hS.more (by omega) (by omega), kne, kasc, ktm2, kft, kfx, kB, by omega⟩
      walk_at "go"
      refine XE.lstF ?_
      walk_at "go"
      walk_at "callD"
      walk_at "go"
      walk_at "sp2"
      refine ⟨s, l, _, _, rfl, hS, by omega, by decide, (by show Int.natAbs _ < 2 ^ 120; decide), fun q M1 q0 q1 hS => ?_⟩
      walk_at "go"
      refine XE.lstF ?_
      walk_at "go"
      walk_at "callD"
      walk_at "go"
      walk_at "sp2"
      refine ⟨s, l, _, _, rfl, hS, by omega, by omega, far1, fun e M1 e0 e1 hS => ?_⟩
      walk_at "go"
      walk_at "callD"
      walk_at "go"
      walk_at "sp2"
      refine ⟨s, l, _, _, rfl, hS, by omega, by omega, far1, fun f M1 f0 f1 hS => ?_⟩
      walk_at "go"
      walk_at "callD"
      walk_at "go"
      walk_at "sp2"
      refine ⟨s, l, _, _, _, rfl, hS, by omega, .lst, by simp, by simp, fun x M1 hx hS => ?_⟩
      obtain ⟨nr, rfl, hnr⟩ := pick_near hx ha2 q0 q1
      walk_at "go"
      walk_at "callD"
      walk_at "go"
      walk_at "sp2"
      refine ⟨s, l, _, _, _, rfl, hS, by omega, .lst, by simp, by simp, fun x M1 hx hS => ?_⟩
      obtain ⟨rd, rfl, rdB⟩ := pick_rd hx e0 e1 f0 f1 hfB
      walk_at "go"
      refine XR.i (hlen2.mulOk rdB (by decide) (by decide) (by decide)) ?_
      walk_at "go"
      have pl2B : PlB (j + 1) (pl + nr + (ar : Int) * rd) := hpl.step hnr ha2 rdB
      generalize pl + nr + (ar : Int) * rd = pl2 at pl2B
      have pl2Q : BQ 108 (pl2 : Rat) := pl2B.Q (by omega)
      have atQ : BQ 10 ((1 + (j : Int) : Int) : Rat) := BQ.int (show (1 + (j : Int)).natAbs < 2 ^ 10 by omega) (by decide)
      have tmB : BQ 20 (st * ((1 + (j : Int) : Int) : Rat)) := stB.mul atQ
      refine XE.bm ?_
      walk_at "go"
      refine ⟨ty_lst (.raw .hd), ?_⟩
      walk_at "go"
      refine ⟨rfl, _, u_L_product (q := ((1 + (j : Int) : Int) : Rat)) (by walk_at "bq") (by walk_at "bq"), ?_⟩
      walk_at "go"
      refine ⟨rfl, _, u_L_product (q := (pl2 : Rat)) (by walk_at "bq") (by walk_at "bq"), ?_⟩
      walk_at "go"
      refine XM.append .hd (by rw [List.length_map]; omega) ?_
      have hlt : ∀ k ∈ kn, k.1 < b + st * ((1 + (j : Int) : Int) : Rat) := fun k hk => by
        obtain ⟨q, q1, q2⟩ := ktm k hk
        rw [q2]
        have h1 : ((q : Int) : Rat) < ((1 + (j : Int) : Int) : Rat) := Rat.intCast_lt_intCast.mpr (by omega)
        have h2 := Rat.mul_lt_mul_of_pos_left h1 st0
        grind
      obtain ⟨g1, g2⟩ := first_snoc (x := (b + st * ((1 + (j : Int) : Int) : Rat), u * (pl2 : Rat))) kne
      refine ⟨⟨pl2, _, _, _, rfl, pl2B⟩, kn ++ [(b + st * ((1 + (j : Int) : Int) : Rat), u * (pl2 : Rat))], _, by (rw [List.map_append]; try rfl), hS.more (by omega) (by omega), by simp, asc_snoc kasc hlt, fun k hk => ?_, g1.trans kft, g2.trans kfx, fun k hk => ?_, by simp; omega⟩
      · rcases List.mem_append.mp hk with hk | hk
        · exact ktm2 k hk
        · rw [List.mem_singleton.mp hk]
          exact ⟨1 + j, by omega, rfl⟩
      · rcases List.mem_append.mp hk with hk | hk
        · exact kB k hk
        · rw [List.mem_singleton.mp hk]
          exact ⟨(bB.add tmB).mono (by decide), (uB.mul pl2Q).mono (by decide)⟩
    · rintro _ M ⟨⟨pl, y1, y2, y3, rfl, hpl⟩, kn, M', rfl, hS, kne, kasc, ktm, kft, kfx, kB, klen⟩
      have hjl : (rngD 1 (c - 1).toNat).length ≤ 6 := by
        rw [rngD_len]
        omega
      generalize (rngD 1 (c - 1).toNat).length = jl at hjl hS kft kfx kB klen hpl
      refine XS.dput (XE.varF rfl .hd ?_)
      walk_at "go"
      refine ⟨pD, _, kN nm, _, rfl, rfl, .hd, by rw [List.length_map, List.length_take]; omega, ?_⟩
      rw [put_new (fun p hp => by
        obtain ⟨m, hm2, rfl⟩ := List.mem_map.mp hp
        exact fun z => nd_take' nnd hnm hm2 (Sum.inr.inj z))]
      refine ⟨⟨_, _, _, _, _, _, _, rfl⟩, fun s => if s = nm then kn else kf s, M', ?_, hS.more (by omega) (by omega), fun j nm2 sp2 hj h1 h2 => ?_⟩
      · rw [take_get' hnm, List.map_append]
        have e : ((ns.take i).map fun n => ((kN n, D.lst ((if n = nm then kn else kf n).map dKn)) : Key × D)) = (ns.take i).map fun n => (kN n, D.lst ((kf n).map dKn)) := List.map_congr_left fun n hn => by
          rw [if_neg (nd_take' nnd hnm hn)]
        rw [e]
        show _ = (pD, MO.dct (_ ++ [(kN nm, D.lst ((if nm = nm then kn else kf nm).map dKn))])) :: M'
        rw [if_pos rfl]
      · by_cases e : j = i
        · subst e
          rw [hnm] at h1
          rw [hsp] at h2
          cases h1
          cases h2
          show KnOk b u ar sp (if nm = nm then kn else kf nm)
          rw [if_pos rfl]
          obtain ⟨m2, hm2⟩ := hp0
          exact ⟨⟨⟨kne, kasc, by omega⟩, kB⟩, kft, ⟨m2, by rw [kfx, hm2]⟩, fun k hk => by
            obtain ⟨q, q1, q2⟩ := ktm k hk
            rw [q2]
            rw [rngD_len] at q1
            exact (bB.add (stB.mul (BQ.int (n := 10) (show ((q : Nat) : Int).natAbs < 2 ^ 10 by omega) (by decide)))).mono (by decide)⟩
        · have hne : nm2 ≠ nm := fun z => by
            subst z
            obtain ⟨b1, d1⟩ := List.getElem?_eq_some_iff.mp h1
            obtain ⟨b2, d2⟩ := List.getElem?_eq_some_iff.mp hnm
            exact absurd (d1.trans d2.symm) (List.pairwise_iff_getElem.mp nnd j i b1 b2 (by omega))
          show KnOk b u ar sp2 (if nm2 = nm then kn else kf nm2)
          rw [if_neg hne]
          exact hkf j nm2 sp2 (by omega) h1 h2
  · rintro _ M ⟨⟨y1, y2, y3, y4, y5, y6, y7, rfl⟩, kf, M', rfl, hS, hkf⟩
    have hzl : (zipD (ns.map D.str) (sps.map D.int)).length = many := by
      unfold zipD
      rw [List.length_map, List.length_zip, List.length_map, List.length_map]
      omega
    rw [hzl] at hS hkf
    rw [hzl, ← nl, List.take_length]
    refine XS.ret (XE.frz ?_)
    walk_at "go"
    refine ⟨pD, _, _, rfl, .hd, ?_⟩
    exact hk b ns kf M' (loads_ok hu hL8.lok bB hm1 hm2 nl sl nnd snd nok srg hkf) nl bB (fun n hn k hk => by
      obtain ⟨j, hj⟩ := List.getElem?_of_mem hn
      have hjl := (List.getElem?_eq_some_iff.mp hj).1
      have hs : sps[j]? = some sps[j] := List.getElem?_eq_getElem (by omega)
      exact (hkf j n _ (by omega) hj hs).tm k hk) (hS.more (by omega) (by omega))
end
end My

namespace My
open PySem L2 DL PyProof.Rows SX
local macro_rules | `(tactic| walk_at "bq") => `(tactic| first | exact BQ.mono (by assumption) (by decide) | exact BQ.mono (BQ.sub (by assumption) (by assumption)) (by decide) | exact BQ.mono (BQ.add (by assumption) (by assumption)) (by decide) | exact BQ.mono (BQ.mul (by assumption) (by assumption)) (by decide))
theorem pick_ring9 {x : D} {r q : Int} (h : x ∈ [D.non, D.int (1 + r), D.int 12, D.int (10 ^ Int.toNat 24 + q)]) (h0 : 0 ≤ r) (h1 : r < 12) (h2 : 0 ≤ q) (h3 : q < 1000000) : ∃ L, x = dL L ∧ LOK8 L := by
  simp only [List.mem_cons, List.not_mem_nil, or_false] at h
  rcases h with h | h | h | h
  · exact ⟨none, h, fun l z => by cases z⟩
  · exact ⟨some (1 + r), h, fun l z => by
      cases z
      exact ⟨by omega, show (1 + r).natAbs < 2 ^ 80 by omega⟩⟩
  · exact ⟨some 12, h, fun l z => by
      cases z
      exact ⟨by omega, show Int.natAbs 12 < 2 ^ 80 by decide⟩⟩
  · refine ⟨some (10 ^ Int.toNat 24 + q), h, fun l z => ?_⟩
    cases z
    have e : (10 : Int) ^ Int.toNat 24 = 1000000000000000000000000 := by decide
    rw [e]
    exact ⟨by omega, show (1000000000000000000000000 + q).natAbs < 2 ^ 80 by omega⟩
theorem pick_far9 {x : D} (h : x ∈ [D.int 2, D.int (10 ^ Int.toNat 30)]) : ∃ far : Int, x = .int far ∧ 0 ≤ far ∧ DL.B 100 far := by
  simp only [List.mem_cons, List.not_mem_nil, or_false] at h
  rcases h with h | h
  · exact ⟨_, h, by decide, show Int.natAbs _ < 2 ^ 100 by decide⟩
  · exact ⟨_, h, by decide, show Int.natAbs _ < 2 ^ 100 by decide⟩
theorem u_L_tables {C : Addr} {ns : List Str} {kf : Str → List Kn} (nd : ns.Nodup) (hl : ns.length ≤ 12) (hk : ∀ n ∈ ns, Kt (kf n)) : R_L_tables C [dLds ns kf] (dTabs C ns kf) := ⟨ns, kf, rfl, nd, hl, hk, rfl⟩
theorem spot_shift {L : Option Int} {b t : Rat} {ns : List Str} {kf : Str → List Kn} {n : Str} (hL : ∀ l, L = some l → 1 ≤ l) : spotQ L (plcQ L b ns kf n t) = spotQ L (posAt (kf n) t) := by
  cases L with
  | none => rfl
  | some l =>
    have hl := hL l rfl
    have hp := cast_pos hl
    refine ((con_spot (L := some l) hL).mp ?_).symm
    show decide (((posAt (kf n) t - (posAt (kf n) t - (l : Rat) * ((rankQ (some l) b ns kf n t / ns.length + floorQ (some l) (firstX (kf n)) : Int) : Rat))) / (l : Rat)).den = 1) = true
    refine decide_eq_true ?_
    generalize rankQ (some l) b ns kf n t / ns.length + floorQ (some l) (firstX (kf n)) = z
    have e : (posAt (kf n) t - (posAt (kf n) t - (l : Rat) * (z : Rat))) / (l : Rat) = (z : Rat) := by
      rw [show posAt (kf n) t - (posAt (kf n) t - (l : Rat) * (z : Rat)) = (z : Rat) * (l : Rat) by grind, Rat.div_def, Rat.mul_assoc, Rat.mul_inv_cancel _ (by grind), Rat.mul_one]
    rw [e]
    rfl
theorem Ask.stepB {L : Option Int} {b t : Rat} {ns : List Str} {kf : Str → List Kn} {n : Str} (hA : Ask L b ns kf n t) : BQ 3102 (steps L b ns kf n t : Rat) := by
  have hlen := hA.hL.len
  have fB := floorQ_abs (fun l hl => (hA.hL.lok l hl).1) (hA.hL.fx hA.hm)
  have lB : DL.B 4 (ns.length : Int) := show (ns.length : Int).natAbs < 2 ^ 4 by omega
  exact BQ.int ((hA.rankB.add (fB.mul lB)).mono (by decide)) (by decide)
local macro_rules | `(tactic| walk_at "go") => `(tactic| repeat (first
  | ((with_reducible refine idE ?_); first
    | ((with_reducible apply XE.var); · exact rfl)
    | (with_reducible first
      | refine XE.op ?_
      | refine XE.int ?_
      | refine XE.str ?_
      | refine XE.ite ?_
      | refine XE.cb ?_
      | refine XE.tup ?_
      | refine XE.bl ?_
      | refine XE.non ?_
      | refine XE.ty ?_
      | refine XE.un ?_
      | refine XE.andV ?_
      | refine XE.orV ?_
      | refine XE.notV ?_
      | refine XE.slice ?_
      | refine XE.chain ?_))
  | ((with_reducible refine idE ?_); (with_reducible refine XE.callP ?_ (fun _ => rfl) (dD := []) (fun _ => .nil) ?_); (focus (first | with_reducible exact mo_R | walk_at "mo")))
  | ((with_reducible refine idE ?_); (with_reducible refine XE.methP ?_ (fun _ => rfl) (dD := []) (fun _ => .nil) ?_); (focus (first | with_reducible exact mo_R | walk_at "mo")))
  | ((with_reducible refine idE ?_); (with_reducible refine XE.callT mo_R (fun _ => rfl) (dD := []) (fun _ => .nil) ?_))
  | ((with_reducible refine idE ?_); (with_reducible refine XE.callNP ?_ (fun _ => rfl) ?_); (focus (first | with_reducible exact mo_R | walk_at "mo")))
  | ((with_reducible refine idE ?_); (with_reducible refine XE.callNTP mo_R (fun _ => rfl) ?_))
  | ((with_reducible refine idA ?_); with_reducible first
      | refine XA.nil ?_
      | refine XA.cons ?_)
  | ((with_reducible refine idR ?_); first
      | (with_reducible first
        | refine XR.add_int ?_
        | refine XR.eq_int ?_
        | refine XR.ne_int ?_
        | refine XR.i0 ?_
        | refine XR.subB ?_
        | refine XR.ne_dQ ?_
        | refine XR.eq_dQ ?_
        | refine XR.b0 ?_
        | refine XR.isN ?_
        | refine XR.ntN ?_)
      | refine XR.ix_tup rfl ?_
      | refine XR.ix_lst (by first | exact LsAt.lst | exact LsAt.raw At.hd) rfl ?_)
  | ((with_reducible refine idS ?_); with_reducible first
      | refine XS.seq ?_
      | refine XS.asg ?_
      | refine XS.ret ?_
      | refine XS.ifs ?_
      | refine XS.next ?_
      | refine XS.drop ?_
      | refine XS.par ?_
      | refine XS.par3 ?_)
  | ((with_reducible refine idT ?_); with_reducible first
      | refine XT.tst ?_
      | refine XT.bool ?_
      | refine XT.and ?_
      | refine XT.or ?_
      | refine XT.not ?_)
  | ((with_reducible refine idT ?_); refine XT.yes ?_)
  | ((with_reducible refine idS ?_); refine XS.aug rfl ?_)
  | with_reducible refine ex1 ?_
  | refine pickF rfl ?_
  | refine pickT rfl ?_
  | ((with_reducible refine idO ?_); with_reducible first
      | refine XO.none ?_
      | refine XO.some ?_)
  | ((with_reducible refine idGs ?_); with_reducible first
      | refine XGs.nil ?_
      | refine XGs.cons ?_)
  | ((with_reducible refine idG ?_); with_reducible first
      | refine XG.name (by simp) ?_
      | refine XG.tup rfl ?_)
  | with_reducible refine XC.abs ?_
  | with_reducible refine XU.neg ?_
  | refine ⟨_, _, rfl, ?_⟩
  | refine ⟨_, _, _, rfl, ?_⟩
  | refine ⟨_, rfl, ?_⟩
  | refine ⟨show (_ : Nat) + 1 ≤ 16000000 by simp only [List.length_cons, List.length_nil] <;> decide, ?_⟩
  | refine ⟨show (0 : Nat) ≤ 16000000 by decide, ?_⟩
  | refine ⟨rfl, rfl, rfl, _, (by walk_at "use"), ?_⟩
  | refine ⟨rfl, rfl, rfl, (by walk_at "tab"), _, (by walk_at "use"), ?_⟩
  | refine ⟨rfl, (by walk_at "tab"), _, (by walk_at "use"), ?_⟩
  | refine ⟨_, .ins, rfl, ?_⟩
  | ((refine ⟨rfl, ?_⟩); (with_reducible refine u_is_lessA ?_ ?_ ?_); (focus walk_at "bq"); (focus walk_at "bq"))
  | ((refine ⟨rfl, ?_⟩); (with_reducible refine u_sum_ofA ?_ ?_ ?_); (focus walk_at "bq"); (focus walk_at "bq"))
  | ((refine ⟨rfl, ?_⟩); (with_reducible refine u_rest_ofA ?_ ?_ ?_); (focus walk_at "bq"); (focus walk_at "bq"))
  | ((refine ⟨rfl, ?_⟩); (with_reducible refine u_product_ofA ?_ ?_ ?_); (focus walk_at "bq"); (focus walk_at "bq"))
  | refine ⟨rfl, _, (by walk_at "use"), ?_⟩
  | dsimp only [List.set_cons_zero, List.set_cons_succ]))
local macro_rules | `(tactic| walk_at "sp") => `(tactic| first | refine ⟨[], _, rfl, rfl, ?_⟩ | refine ⟨rfl, ?_⟩)
local macro_rules | `(tactic| walk_at "tab") => `(tactic| first | exact .hd | exact .tl .hd | exact .tl (.tl .hd) | exact .tl (.tl (.tl .hd)))
local macro_rules | `(tactic| walk_at "sp1") => `(tactic| first | refine ⟨[_], _, rfl, rfl, ?_⟩ | refine ⟨rfl, ?_⟩)
local macro_rules | `(tactic| walk_at "sp2") => `(tactic| first | refine ⟨[_, _], _, rfl, rfl, ?_⟩ | refine ⟨rfl, ?_⟩)

local macro_rules | `(tactic| walk_at "mo") => `(tactic| first | exact mo_R | exact mo_L_begin | exact mo_L_take | exact mo_L_pick | exact mo_L_loads | exact mo_L_longer | exact mo_L_step | exact mo_L_time | exact mo_L_places)
local macro_rules | `(tactic| walk_at "callD") => `(tactic| (refine XE.call (by walk_at "mo") (fun _ => rfl) (dD := []) (fun _ => .nil) ?_))
local macro_rules | `(tactic| walk_at "use") => `(tactic| (try dsimp only [List.cons_append, List.nil_append, List.append_nil]); first | ((with_reducible apply u_L_tables) <;> first | assumption | walk_at "bq") | ((with_reducible apply u_held_at) <;> first | assumption | walk_at "bq") | ((with_reducible apply u_place_at) <;> first | assumption | walk_at "bq") | ((with_reducible apply u_rank_of) <;> first | assumption | walk_at "bq") | ((with_reducible apply u_load_at) <;> first | assumption | walk_at "bq") | ((with_reducible apply u_L_at) <;> first | assumption | walk_at "bq") | ((with_reducible apply u_L_spot) <;> first | assumption | walk_at "bq") | ((with_reducible apply u_L_spotW) <;> first | assumption | walk_at "bq") | ((with_reducible apply u_L_floor) <;> first | assumption | walk_at "bq") | ((with_reducible apply u_L_rest) <;> first | assumption | walk_at "bq") | ((with_reducible apply u_L_sum) <;> first | assumption | walk_at "bq") | exact u_L_tables (by assumption) (by assumption) (by assumption) | exact u_held_at (by assumption) (by assumption) | exact u_place_at (by assumption) (by assumption) | exact u_rank_of (by assumption) | exact u_load_at (by assumption) (by walk_at "bq") | exact u_L_at (by assumption) (by assumption) (by assumption) | exact u_L_spot (by assumption) (by assumption) | exact u_L_spotW (by assumption) (by assumption) | exact u_L_floor (by assumption) (by assumption) | exact u_L_rest (by walk_at "bq") (by walk_at "bq") | exact u_L_sum (by walk_at "bq") (by walk_at "bq"))
section
variable {P : Program} {w : World} {K : PySem.W.Frag} {mg : Str → Option Value} {base : Heap}
theorem ok_law (T : Txt K mg) (B : Tbs T base) : FnOk P w K mg base (L2.CX P w) 15 T.law.a T.law.fd ["script"] (spD K 1 (sp_lawT T.P_ordered qlam)) := by
  refine fn_okD T.law.F sc_law rfl fun cdv A outer s H E hr => ?_
  have nd := sc_law.nd
  have hu64 := hr.units
  have hu65 := hu65_of hr
  have hu1 := hu_of hr
  refine ⟨_, (pss_cons (ps_set (i := 1) nd rfl (by first | exact Or.inl rfl | exact Or.inr rfl) (pe_call (ok_L_begin T) (hr.mono (by decide)) rfl T.L_begin.g T.L_begin.F.kp (b_L_begin T) .nil px0 (pa_cons (pv 0) pa_nil)))
      (pss_cons (ps_set (i := 2) nd rfl (by first | exact Or.inl rfl | exact Or.inr rfl) (pe_call (ok_L_pick T) (hr.mono (by decide)) rfl T.L_pick.g T.L_pick.F.kp (b_L_pick T) .nil px0 (pa_cons (pv 1) (pa_cons (pe_lst (pa_cons pe_non (pa_cons (pe_op (op_addK (K := K) rfl) pe_int (pe_call (ok_L_take T) (hr.mono (by decide)) rfl T.L_take.g T.L_take.F.kp (b_L_take T) .nil px0 (pa_cons (pv 1) (pa_cons pe_int pa_nil)))) (pa_cons pe_int (pa_cons (pe_op (op_addK (K := K) rfl) (pe_op op_pow pe_int pe_int) (pe_call (ok_L_take T) (hr.mono (by decide)) rfl T.L_take.g T.L_take.F.kp (b_L_take T) .nil px0 (pa_cons (pv 1) (pa_cons (pe_op op_pow pe_int pe_int) pa_nil)))) pa_nil))))) pa_nil))))
      (pss_cons (ps_set (i := 3) nd rfl (by first | exact Or.inl rfl | exact Or.inr rfl) (pe_call (ok_L_longer T) (hr.mono (by decide)) rfl T.L_longer.g T.L_longer.F.kp (b_L_longer T) .nil px0 (pa_cons (pv 1) (pa_cons (pe_call (ok_L_loads T) (hr.mono (by decide)) rfl T.L_loads.g T.L_loads.F.kp (b_L_loads T) .nil px0 (pa_cons (pv 1) (pa_cons pe_int (pa_cons (pv 2) (pa_cons (pe_call (ok_L_pick T) (hr.mono (by decide)) rfl T.L_pick.g T.L_pick.F.kp (b_L_pick T) .nil px0 (pa_cons (pv 1) (pa_cons (pe_lst (pa_cons pe_int (pa_cons (pe_op op_pow pe_int pe_int) pa_nil))) pa_nil))) pa_nil))))) pa_nil))))
      (pss_cons (ps_par (i := 4) (j := 5) rfl nd rfl rfl (by decide) rfl rfl (pa_cons (pe_call (ok_L_tables T) (hr.mono (by decide)) rfl T.L_tables.g T.L_tables.F.kp (b_L_tables T) .nil px0 (pa_cons (pv 3) pa_nil)) (pa_cons (pe_ix (ix_K (K := K) rfl) (pe_ix (ix_K (K := K) rfl) (pe_dget hu1 (pv 3) (pe_ix (ix_K (K := K) rfl) (pe_callTy (cr_lstG (K := K) rfl (by rfl)) (by rfl) T.m_list boot_list (pa_cons (pv 3) pa_nil)) pe_int (fun _ _ => rfl)) (fun _ _ => rfl)) pe_int (fun _ _ => rfl)) pe_int (fun _ _ => rfl)) pa_nil)) (by rfl))
      (pss_cons (ps_for (passes_of rfl) rfl (pi_range1 rfl T.m_range (pa_cons (pe_op (op_addK (K := K) rfl) pe_int (pe_callB (cr_min2 rfl) (by rfl) T.m_min boot_min (pa_cons (pe_callB (cr_lenK (K := K) rfl) (by rfl) T.m_len PySem.boot_len (pa_cons (pv 0) pa_nil)) (pa_cons pe_int pa_nil)))) pa_nil)) (pg_name (i := 6) nd rfl (by first | exact Or.inl rfl | exact Or.inr rfl))
      (pss_cons (ps_par (i := 7) (j := 8) rfl nd rfl rfl (by decide) rfl rfl (pa_cons (pe_call (ok_L_time T) (hr.mono (by decide)) rfl T.L_time.g T.L_time.F.kp (b_L_time T) .nil px0 (pa_cons (pv 1) (pa_cons (pv 3) pa_nil))) (pa_cons (pe_call (ok_L_step T) (hr.mono (by decide)) rfl T.L_step.g T.L_step.F.kp (b_L_step T) .nil px0 (pa_cons (pv 1) pa_nil)) pa_nil)) (by rfl))
      (pss_cons (ps_par (i := 9) (j := 10) rfl nd rfl rfl (by decide) rfl rfl (pa_cons (pe_call (ok_L_places T) (hr.mono (by decide)) rfl T.L_places.g T.L_places.F.kp (b_L_places T) .nil px0 (pa_cons (pv 3) (pa_cons (pv 5) (pa_cons (pv 2) pa_nil)))) (pa_cons (pe_call (ok_L_places T) (hr.mono (by decide)) rfl T.L_places.g T.L_places.F.kp (b_L_places T) .nil px0 (pa_cons (pv 3) (pa_cons (pv 7) (pa_cons (pv 2) pa_nil)))) pa_nil)) (by rfl))
      (pss_cons (ps_set (i := 11) nd rfl (by first | exact Or.inl rfl | exact Or.inr rfl) (pe_call (ok_L_take T) (hr.mono (by decide)) rfl T.L_take.g T.L_take.F.kp (b_L_take T) .nil px0 (pa_cons (pv 1) (pa_cons pe_int pa_nil))))
      (pss_cons (ps_set (i := 12) nd rfl (by first | exact Or.inl rfl | exact Or.inr rfl) (pe_callN (ok_held_at T B) (hr.mono (by decide)) rfl T.held_at.g T.held_at.F.kp (bk_held_at_3_length T) px0 (pa_cons (pv 4) (pa_cons (pv 11) (pa_cons (pv 7) pa_nil))) (pk_cons (pv 2) pk_nil)))
      (pss_cons (ps_if (pt_cmpR (op_neK (K := K) rfl hu64) (pe_callN (ok_place_at T B) (hr.mono (by decide)) rfl T.place_at.g T.place_at.F.kp (bk_place_at_3_length T) px0 (pa_cons (pv 4) (pa_cons (pv 11) (pa_cons (pv 7) pa_nil))) (pk_cons (pv 2) pk_nil)) (pe_ix (ix_K (K := K) rfl) (pv 10) (pv 11) (fun _ _ => rfl)) (nomark _))
      (pss_one (ps_ret pe_bl))
      pss_nil)
      (pss_cons (ps_par (i := 13) (j := 14) rfl nd rfl rfl (by decide) rfl rfl (pa_cons (pe_call (ok_L_at T) (hr.mono (by decide)) rfl T.L_at.g T.L_at.F.kp (b_L_at T) .nil px0 (pa_cons (pe_dget hu1 (pv 3) (pv 12) (fun _ _ => rfl)) (pa_cons (pv 7) pa_nil))) (pa_cons (pe_callN (ok_rank_of T B) (hr.mono (by decide)) rfl T.rank_of.g T.rank_of.F.kp (bk_rank_of_3_length T) px0 (pa_cons (pv 4) (pa_cons (pv 12) (pa_cons (pv 7) pa_nil))) (pk_cons (pv 2) pk_nil)) pa_nil)) (by rfl))
      (pss_cons (ps_if (PW.pt (pw_or (pt_cmpR (op_neK (K := K) rfl hu64) (pe_call (ok_L_spot T) (hr.mono (by decide)) rfl T.L_spot.g T.L_spot.F.kp (b_L_spot T) .nil px0 (pa_cons (pv 13) (pa_cons (pv 2) pa_nil))) (pe_call (ok_L_spot T) (hr.mono (by decide)) rfl T.L_spot.g T.L_spot.F.kp (b_L_spot T) .nil px0 (pa_cons (pe_ix (ix_K (K := K) rfl) (pv 10) (pv 11) (fun _ _ => rfl)) (pa_cons (pv 2) pa_nil))) (nomark _)) (pw_or1 (pt_cmpR (op_neK (K := K) rfl hu64) (pe_op op_modN (pv 14) pe_int) (pv 11) (nomark _)))))
      (pss_one (ps_ret pe_bl))
      pss_nil)
      (pss_cons (ps_set (i := 15) nd rfl (by first | exact Or.inl rfl | exact Or.inr rfl) (pe_op (op_addK (K := K) rfl) (pv 14) (pe_op op_mulW pe_int (pe_call (ok_L_floor T) (hr.mono (by decide)) rfl T.L_floor.g T.L_floor.F.kp (b_L_floor T) .nil px0 (pa_cons (pe_ix (ix_K (K := K) rfl) (pe_ix (ix_K (K := K) rfl) (pe_dget hu1 (pv 3) (pv 12) (fun _ _ => rfl)) pe_int (fun _ _ => rfl)) pe_int (fun _ _ => rfl)) (pa_cons (pv 2) pa_nil))))))
      (pss_cons (ps_if (pt_cmpR (op_neK (K := K) rfl hu64) (pe_callN (ok_load_at T B) (hr.mono (by decide)) rfl T.load_at.g T.load_at.F.kp (bk_load_at_4_length T) px0 (pa_cons (pv 4) (pa_cons (pv 12) (pa_cons (pv 7) (pa_cons (pv 8) pa_nil)))) (pk_cons (pv 2) pk_nil)) (pe_call (ok_L_sum T) (hr.mono (by decide)) rfl T.L_sum.g T.L_sum.F.kp (b_L_sum T) .nil px0 (pa_cons (pv 13) (pa_cons (pe_call (ok_L_product T) (hr.mono (by decide)) rfl T.L_product.g T.L_product.F.kp (b_L_product T) .nil px0 (pa_cons (pv 8) (pa_cons (pe_tup (pa_cons (pv 15) (pa_cons pe_int pa_nil))) pa_nil))) pa_nil))) (nomark _))
      (pss_one (ps_ret pe_bl))
      pss_nil)
      (pss_cons (ps_set (i := 16) nd rfl (by first | exact Or.inl rfl | exact Or.inr rfl) (pe_call (ok_L_rest T) (hr.mono (by decide)) rfl T.L_rest.g T.L_rest.F.kp (b_L_rest T) .nil px0 (pa_cons (pe_ix (ix_K (K := K) rfl) (pv 10) (pv 11) (fun _ _ => rfl)) (pa_cons (pe_ix (ix_K (K := K) rfl) (pv 9) (pv 11) (fun _ _ => rfl)) pa_nil))))
      (pss_one (ps_if (PW.pt (pw_and (pt_cmpR op_ntN' (pv 2) pe_non (nomark _)) (pw_and1 (pt_cmpR (op_neK (K := K) rfl hu64) (pe_call (ok_displaced T B) (hr.mono (by decide)) rfl T.displaced.g T.displaced.F.kp (b_displaced T) .nil px0 (pa_cons (pv 4) (pa_cons (pv 11) (pa_cons (pv 7) (pa_cons (pv 2) pa_nil))))) (pv 16) (nomark _)))))
      (pss_one (ps_ret pe_bl))
      pss_nil)))))))))))))
      (pss_one (ps_ret pe_bl))))))), fun ds M kk xx hl h => ?_⟩
  try dsimp only [cxOf]
  obtain ⟨xs, rfl, rfl, hl, hk⟩ := h
  walk_at "go"
  walk_at "callD"
  walk_at "go"
  refine ⟨tabM T.P_ordered qlam, [], rfl, rfl, _, xs, rfl, rfl, .ro, hl, fun s l M1 hS => ?_⟩
  walk_at "go"
  walk_at "callD"
  walk_at "go"
  refine XE.lstF ?_
  walk_at "go"
  walk_at "callD"
  walk_at "go"
  walk_at "sp"
  refine ⟨s, l, _, _, rfl, hS, by omega, by decide, (by show Int.natAbs _ < 2 ^ 120; decide), fun r M1 r0 r1 hS => ?_⟩
  walk_at "go"
  refine XR.i ⟨by decide, by decide, by decide⟩ ?_
  walk_at "go"
  walk_at "callD"
  walk_at "go"
  refine XR.i ⟨by decide, by decide, by decide⟩ ?_
  walk_at "go"
  walk_at "sp"
  refine ⟨s, l, _, _, rfl, hS, by omega, by decide, (by show Int.natAbs _ < 2 ^ 120; decide), fun q M1 q0 q1 hS => ?_⟩
  walk_at "go"
  walk_at "sp"
  refine ⟨s, l, _, _, _, rfl, hS, by omega, .lst, by simp, by simp, fun x M1 hx hS => ?_⟩
  obtain ⟨L, rfl, hL8⟩ := pick_ring9 hx r0 (by omega) q0 (by have e1 : (10 : Int) ^ Int.toNat 6 = 1000000 := (by decide); have e2 : (10 : Int) ^ 6 = 1000000 := (by decide); omega)
  have lok := hL8.lok
  walk_at "go"
  walk_at "callD"
  walk_at "go"
  walk_at "callD"
  walk_at "go"
  walk_at "callD"
  walk_at "go"
  refine XE.lstF ?_
  walk_at "go"
  refine XR.i ⟨by decide, by decide, by decide⟩ ?_
  walk_at "go"
  walk_at "sp"
  refine ⟨s, l, _, _, _, rfl, hS, by omega, .lst, by simp, by simp, fun x M1 hx hS => ?_⟩
  obtain ⟨far, rfl, f0, fB⟩ := pick_far9 hx
  walk_at "go"
  walk_at "sp"
  refine ⟨s, l, _, 12, L, far, rfl, hS, by omega, by omega, by omega, hL8, f0, fB, fun b ns kf0 M1 hL0 hnl bB hT hS => ?_⟩
  walk_at "go"
  walk_at "sp"
  refine ⟨s, l, _, L, b, ns, kf0, rfl, hS, by omega, hL0, hT, fun kf M1 hL hS => ?_⟩
  have hnd := hL.nd
  have hl12 := hL.len
  have hkt := hL.kt
  have gl : ∀ n ∈ ns, valD (ns.map fun m => (kN m, D.lst ((kf m).map dKn))) (kN n) = some (.lst ((kf n).map dKn)) := fun n hn => val_fun (e := fun m => D.lst ((kf m).map dKn)) hn
  walk_at "go"
  obtain ⟨n0, r0', hns⟩ : ∃ n r, ns = n :: r := List.exists_cons_of_ne_nil hL.ne
  have hm0 : n0 ∈ ns := by rw [hns]; exact List.mem_cons_self
  refine XE.dgetG ?_
  walk_at "go"
  refine XC.lstD .fdct ?_
  rw [keys_map]
  have hx0 : (ns.map D.str)[0]? = some (D.str n0) := by rw [hns]; rfl
  walk_at "go"
  refine XR.ix_lst .lst (at_nat (z := 0) (j := 0) rfl hx0) ?_
  obtain ⟨k0, hk0, e0, _⟩ := (hL.kt n0 hm0).get0
  have e1 := hL.beg n0 hm0
  refine ⟨_, kN n0, _, .fdct, rfl, gl n0 hm0, ?_⟩
  walk_at "go"
  refine XR.ix_lst .lst (at_nat (z := 0) (j := 0) rfl (DL.get_map hk0)) ?_
  dsimp only [dKn]
  walk_at "go"
  rw [← e0, e1]
  refine XS.for [6] (XI.rng1 ?_)
  walk_at "go"
  refine XC.len .ro ?_
  walk_at "go"
  refine XC.min2 ?_
  walk_at "go"
  rw [List.length_map]
  have hmn : (1 + min (xs.length : Int) 1).toNat ≤ 2 := by omega
  refine ⟨by omega, by omega, fun i ds M => (∃ a1 a2 a3 a4 a5 a6 a7 a8 a9 b1 b2 : Option D, ds = [some (.ro (xs.map D.int)), some (.raw s), some (dL L), some (dLds ns kf), some (dTabs T.C_Timetable ns kf), some (dQ b), a1, a2, a3, a4, a5, a6, a7, a8, a9, b1, b2]) ∧ ∃ M', M = tabM T.P_ordered qlam ++ M' ∧ IsA s l (2000 + 100 * i) M', ⟨⟨_, _, _, _, _, _, _, _, _, _, _, rfl⟩, M1, rfl, hS.more (by omega) (by omega)⟩, ?_, ?_⟩
  rotate_left
  · rintro _ M ⟨⟨a1, a2, a3, a4, a5, a6, a7, a8, a9, b1, b2, rfl⟩, M', rfl, _⟩
    walk_at "go"
    exact hk _
  rintro i x _ M hx ⟨⟨a1, a2, a3, a4, a5, a6, a7, a8, a9, b1, b2, rfl⟩, M', rfl, hS⟩
  rw [rngD_get] at hx
  split at hx
  rotate_left
  · cases hx
  rename_i hi
  cases hx
  have hi : i < 2 := by omega
  walk_at "go"
  walk_at "callD"
  walk_at "go"
  walk_at "sp"
  refine ⟨s, l, _, L, b, ns, kf, rfl, hS, by omega, hL, bB, fun t M1 ht hb hS => ?_⟩
  walk_at "go"
  walk_at "callD"
  walk_at "go"
  walk_at "sp"
  refine ⟨s, l, _, rfl, hS, by omega, fun wd M1 wB w0 hS => ?_⟩
  walk_at "go"
  refine ⟨rfl, L, b, ns, kf, b, rfl, hL, hL.bb, Rat.le_refl, fun ps1 hps1 => ?_⟩
  walk_at "go"
  refine ⟨rfl, L, b, ns, kf, t, rfl, hL, ht, hb, fun ps2 hps2 => ?_⟩
  walk_at "go"
  walk_at "callD"
  walk_at "go"
  walk_at "sp"
  refine ⟨s, l, _, _, rfl, hS, by omega, by decide, (by show Int.natAbs _ < 2 ^ 120; decide), fun c M1 c0 c1 hS => ?_⟩
  obtain ⟨n, hm, hcn⟩ := hL.car_onto hb c0 (by omega)
  obtain ⟨m, hm2, hcm⟩ := hL.car_onto (t := b) Rat.le_refl c0 (by omega)
  have hA : Ask L b ns kf n t := ⟨hL, hm, ht, hb⟩
  have hA2 : Ask L b ns kf m b := ⟨hL, hm2, hL.bb, Rat.le_refl⟩
  have hc := hcn.symm
  have hd := hcm.symm
  have g1 : ps2[c.toNat]? = some (plcQ L b ns kf n t) := by rw [hc]; exact hps2 n hm
  have g2 : ps1[c.toNat]? = some (plcQ L b ns kf m b) := by rw [hd]; exact hps1 m hm2
  have p1 := hA.plcB
  have p2 := hA2.plcB
  have p1W : BQ 2000 (plcQ L b ns kf n t) := p1.mono (by decide)
  have kt := hkt n hm
  have fl : firstT (kf n) ≤ t := by rw [hL.beg n hm]; exact hb
  have pB : BQ 1404 (posAt (kf n) t) := kt.pos ht
  have sQ := hA.stepB
  walk_at "go"
  refine XR.ix_lst .lst (at_nat (j := c.toNat) (by omega) (DL.get_map g1)) ?_
  walk_at "go"
  refine pickF (by simp) ?_
  walk_at "go"
  refine XE.dgetG ?_
  walk_at "go"
  refine ⟨_, kN n, _, .fdct, rfl, gl n hm, ?_⟩
  walk_at "go"
  refine XR.ix_lst .lst (at_nat (j := c.toNat) (by omega) (DL.get_map g1)) ?_
  walk_at "go"
  rw [spot_shift (fun l hl => (lok l hl).1)]
  refine pickF (by simp) ?_
  walk_at "go"
  refine XR.i (by decide) ?_
  have hcr : (rankQ L b ns kf n t).fmod 12 = c := by
    rw [Int.fmod_eq_emod_of_nonneg _ (by decide), ← hcn]
    unfold carQ
    rw [hnl]
    rfl
  rw [hcr]
  walk_at "go"
  refine pickF (by simp) ?_
  walk_at "go"
  refine XE.dgetG ?_
  walk_at "go"
  refine ⟨_, kN n, _, .fdct, rfl, gl n hm, ?_⟩
  walk_at "go"
  obtain ⟨k1, hk1, _, e2, _, hkx⟩ := (hL.kt n hm).get0
  have hkx2 : BQ 1404 k1.2 := hkx.mono (by decide)
  refine XR.ix_lst .lst (at_nat (z := 0) (j := 0) rfl (DL.get_map hk1)) ?_
  dsimp only [dKn]
  walk_at "go"
  have fB2 := floorQ_B (m := 200) lok hkx (by decide)
  refine XR.i ((show DL.B 4 12 from show Int.natAbs 12 < 2 ^ 4 by decide).mulOk fB2 (by decide) (by decide) (by decide)) ?_
  walk_at "go"
  have hst : rankQ L b ns kf n t + 12 * floorQ L k1.2 = steps L b ns kf n t := by
    unfold steps rankQ
    rw [e2, hnl, Int.mul_comm]
    rfl
  rw [hst]
  refine ⟨rfl, _, u_L_product (p := wd) (q := (steps L b ns kf n t : Rat)) (by walk_at "bq") (by walk_at "bq"), ?_⟩
  have mB : BQ 3182 (wd * (steps L b ns kf n t : Rat)) := wB.mul sQ
  walk_at "go"
  refine pickF (by simp) ?_
  walk_at "go"
  refine XR.ix_lst .lst (at_nat (j := c.toNat) (by omega) (DL.get_map g1)) ?_
  walk_at "go"
  refine XR.ix_lst .lst (at_nat (j := c.toNat) (by omega) (DL.get_map g2)) ?_
  walk_at "go"
  cases L with
  | none =>
    dsimp only [dL]
    walk_at "go"
    exact ⟨⟨_, _, _, _, _, _, _, _, _, _, _, rfl⟩, _, rfl, hS.more (by omega) (by omega)⟩
  | some lv =>
    dsimp only [dL]
    walk_at "go"
    refine ⟨rfl, .hd, _, u_moved_by hA hc hm2 hd, ?_⟩
    walk_at "go"
    refine pickF (by simp) ?_
    walk_at "go"
    exact ⟨⟨_, _, _, _, _, _, _, _, _, _, _, rfl⟩, _, rfl, hS.more (by omega) (by omega)⟩
end
end My

namespace My
open PySem L2 DL PyProof.Rows
theorem all_mk {l : PySem.W.OpenLaw} {w : World} {K : PySem.W.Frag} {h : Heap} {mg : Str → Option Value} {fa : Addr} (X : K.In h) (G : h.Ns mainGlobals mg) (hfa : mg "law" = some (.ref fa))
    {P_ordered : Addr}
    {c_ordered : Addr}
    {C_Timetable : Addr}
    {C_NoCarrier : Addr}
    {C_NoName : Addr}
    {C_NoTrack : Addr}
    {C_NoTime : Addr}
    {C_NoTable : Addr}
    {C_TrackError : Addr}
    (T_is_whole : FnT K mg "is_whole" s_is_whole [] [])
    (T_common_divisor : FnT K mg "common_divisor" s_common_divisor [] [])
    (T_is_fraction : FnT K mg "is_fraction" s_is_fraction [] [])
    (T_new_fraction : FnT K mg "new_fraction" s_new_fraction [.int 1] [])
    (T_sum_of : FnT K mg "sum_of" s_sum_of [] [])
    (T_rest_of : FnT K mg "rest_of" s_rest_of [] [])
    (T_product_of : FnT K mg "product_of" s_product_of [] [])
    (T_share_of : FnT K mg "share_of" s_share_of [] [])
    (T_order_of : FnT K mg "order_of" s_order_of [] [])
    (T_is_less : FnT K mg "is_less" s_is_less [] [])
    (T_floor_of : FnT K mg "floor_of" s_floor_of [] [])
    (T_need_length : FnT K mg "need_length" s_need_length [] [])
    (T_later_begin : FnT K mg "later_begin" s_later_begin [] [])
    (T_need_times : FnT K mg "need_times" s_need_times [] [])
    (T_gap_at : FnT K mg "gap_at" s_gap_at [] [])
    (T_growth_at : FnT K mg "growth_at" s_growth_at [] [])
    (T_laps_in : FnT K mg "laps_in" s_laps_in [] [])
    (T_is_contact : FnT K mg "is_contact" s_is_contact [] [])
    (T_next_turn : FnT K mg "next_turn" s_next_turn [] [])
    (T_last_turn : FnT K mg "last_turn" s_last_turn [] [])
    (T_side_before : FnT K mg "side_before" s_side_before [] [])
    (T_side_after : FnT K mg "side_after" s_side_after [] [])
    (T_before_at : FnT K mg "before_at" s_before_at [] [])
    (T_laps_before : FnT K mg "laps_before" s_laps_before [] [])
    (T_laps : FnT K mg "laps" s_laps [] [("length", .non)])
    (T_is_knot : FnT K mg "is_knot" s_is_knot [] [])
    (T_are_knots : FnT K mg "are_knots" s_are_knots [] [])
    (T_slopes_of : FnT K mg "slopes_of" s_slopes_of [] [])
    (T_turns_of : FnT K mg "turns_of" s_turns_of [] [])
    (T_piece_on : FnT K mg "piece_on" s_piece_on [] [])
    (T_pace_on : FnT K mg "pace_on" s_pace_on [] [])
    (T_place_on : FnT K mg "place_on" s_place_on [] [])
    (T_is_name : FnT K mg "is_name" s_is_name [] [])
    (T_spot_of : FnT K mg "spot_of" s_spot_of [] [])
    (T_need_tables : FnT K mg "need_tables" s_need_tables [] [])
    (T_ordered : FnT K mg "ordered" s_ordered [] [])
    (T_starting_order : FnT K mg "starting_order" s_starting_order [] [])
    (T_need_load : FnT K mg "need_load" s_need_load [] [])
    (T_need_carrier : FnT K mg "need_carrier" s_need_carrier [] [])
    (T_begin_of : FnT K mg "begin_of" s_begin_of [] [])
    (T_need_moment : FnT K mg "need_moment" s_need_moment [] [])
    (T_growth_of : FnT K mg "growth_of" s_growth_of [] [])
    (T_rank_at : FnT K mg "rank_at" s_rank_at [] [])
    (T_carrier_of : FnT K mg "carrier_of" s_carrier_of [] [])
    (T_spot_floor : FnT K mg "spot_floor" s_spot_floor [] [])
    (T_load_of : FnT K mg "load_of" s_load_of [] [])
    (T_rank_of : FnT K mg "rank_of" s_rank_of [] [("length", .non)])
    (T_held_at : FnT K mg "held_at" s_held_at [] [("length", .non)])
    (T_place_at : FnT K mg "place_at" s_place_at [] [("length", .non)])
    (T_load_at : FnT K mg "load_at" s_load_at [] [("length", .non)])
    (T_need_ring : FnT K mg "need_ring" s_need_ring [] [])
    (T_moved_by : FnT K mg "moved_by" s_moved_by [] [])
    (T_displaced : FnT K mg "displaced" s_displaced [] [])
    (T_L_begin : FnT K mg "_law_begin" s_L_begin [] [])
    (T_L_take : FnT K mg "_law_take" s_L_take [] [])
    (T_L_pick : FnT K mg "_law_pick" s_L_pick [] [])
    (T_L_f : FnT K mg "_law_f" s_L_f [] [])
    (T_L_sum : FnT K mg "_law_sum" s_L_sum [] [])
    (T_L_rest : FnT K mg "_law_rest" s_L_rest [] [])
    (T_L_product : FnT K mg "_law_product" s_L_product [] [])
    (T_L_less : FnT K mg "_law_less" s_L_less [] [])
    (T_L_number : FnT K mg "_law_number" s_L_number [] [])
    (T_L_part : FnT K mg "_law_part" s_L_part [] [])
    (T_L_step : FnT K mg "_law_step" s_L_step [] [])
    (T_L_names : FnT K mg "_law_names" s_L_names [] [])
    (T_L_lot : FnT K mg "_law_lot" s_L_lot [] [])
    (T_L_loads : FnT K mg "_law_loads" s_L_loads [] [])
    (T_L_at : FnT K mg "_law_at" s_L_at [] [])
    (T_L_floor : FnT K mg "_law_floor" s_L_floor [] [])
    (T_L_spot : FnT K mg "_law_spot" s_L_spot [] [])
    (T_L_tables : FnT K mg "_law_tables" s_L_tables [] [])
    (T_L_time : FnT K mg "_law_time" s_L_time [] [])
    (T_L_ascending : FnT K mg "_law_ascending" s_L_ascending [] [])
    (T_L_places : FnT K mg "_law_places" s_L_places [] [])
    (T_L_longer : FnT K mg "_law_longer" s_L_longer [] [])
    (T_law : FnT K mg "law" s_law [] [])
    (a_TrackError : PySem.W.nsIn K mainGlobals "TrackError" = some (some (.ref C_TrackError)))
    (a_NoTable : PySem.W.nsIn K mainGlobals "NoTable" = some (some (.ref C_NoTable)))
    (a_NoTime : PySem.W.nsIn K mainGlobals "NoTime" = some (some (.ref C_NoTime)))
    (a_NoTrack : PySem.W.nsIn K mainGlobals "NoTrack" = some (some (.ref C_NoTrack)))
    (a_NoName : PySem.W.nsIn K mainGlobals "NoName" = some (some (.ref C_NoName)))
    (a_NoCarrier : PySem.W.nsIn K mainGlobals "NoCarrier" = some (some (.ref C_NoCarrier)))
    (a_Timetable : PySem.W.nsIn K mainGlobals "Timetable" = some (some (.ref C_Timetable)))
    (cl_Timetable : Cls K C_Timetable)
    (ty_Timetable : TyC K C_Timetable)
    (na_Timetable_points : NoAttr K C_Timetable "points")
    (na_Timetable_turns : NoAttr K C_Timetable "turns")
    (T_Timetable_init : MeT K C_Timetable "__init__" "Timetable.__init__" s_Timetable_init)
    (T_Timetable_begin : MeT K C_Timetable "begin" "Timetable.begin" s_Timetable_begin)
    (T_Timetable_pace : MeT K C_Timetable "pace" "Timetable.pace" s_Timetable_pace)
    (T_Timetable_at : MeT K C_Timetable "at" "Timetable.at" s_Timetable_at)
    (mk_Timetable : PySem.W.makesIn K C_Timetable = true) (kc_Timetable : PySem.W.keepIn K (.ref C_Timetable) = true)
    (con_Timetable_MOST : ∃ u, Con K C_Timetable "MOST" (.int 40) u)
    {a_ZERO_pairs : Addr}
    (n_ZERO_pairs : PySem.W.nsIn K mainGlobals "ZERO_pairs" = some (some (.ref a_ZERO_pairs)))
    (t_ZERO_pairs : ∀ F, Rep K F (.tup [.int 0, .int 1]) (.ref a_ZERO_pairs))
    {a_ZERO_tables : Addr}
    (n_ZERO_tables : PySem.W.nsIn K mainGlobals "ZERO_tables" = some (some (.ref a_ZERO_tables)))
    (t_ZERO_tables : ∀ F, Rep K F (.tup [.int 0, .int 1]) (.ref a_ZERO_tables))
    {u_MOST_LOADS : Value} (n_MOST_LOADS : PySem.W.nsIn K mainGlobals "MOST_LOADS" = some (some u_MOST_LOADS)) (r_MOST_LOADS : RelV (.int 12) u_MOST_LOADS)
    {u_LETTERS : Value} (n_LETTERS : PySem.W.nsIn K mainGlobals "LETTERS" = some (some u_LETTERS)) (r_LETTERS : RelV (.str "abcdefghijklmnopqrstuvwxyz") u_LETTERS)
    (cd_ordered : T_ordered.fd.code = .ref c_ordered) (em_ordered : h.get? P_ordered = some { cls := .none, data := .fields #[] }) (hd_ordered : PySem.W.codeHdIn K c_ordered P_ordered = true) (no_ordered : K.lookup P_ordered = none)
    (z_isinstance : PySem.W.nsIn K mainGlobals "isinstance" = some none)
    (z_int : PySem.W.nsIn K mainGlobals "int" = some none)
    (z_bool : PySem.W.nsIn K mainGlobals "bool" = some none)
    (z_abs : PySem.W.nsIn K mainGlobals "abs" = some none)
    (z_tuple : PySem.W.nsIn K mainGlobals "tuple" = some none)
    (z_len : PySem.W.nsIn K mainGlobals "len" = some none)
    (z_range : PySem.W.nsIn K mainGlobals "range" = some none)
    (z_list : PySem.W.nsIn K mainGlobals "list" = some none)
    (z_zip : PySem.W.nsIn K mainGlobals "zip" = some none)
    (z_str : PySem.W.nsIn K mainGlobals "str" = some none)
    (z_all : PySem.W.nsIn K mainGlobals "all" = some none)
    (z_dict : PySem.W.nsIn K mainGlobals "dict" = some none)
    (z_sorted : PySem.W.nsIn K mainGlobals "sorted" = some none)
    (z_min : PySem.W.nsIn K mainGlobals "min" = some none)
    (z_enumerate : PySem.W.nsIn K mainGlobals "enumerate" = some none) :
    LamX.LawAtS l w K (L2.CX l.prog w) 15 63 "script" mg fa h := by
  obtain ⟨T, e2, e3⟩ : ∃ T : Txt K mg, T.c_ordered = c_ordered ∧ T.P_ordered = P_ordered := ⟨{ is_whole := T_is_whole, common_divisor := T_common_divisor, is_fraction := T_is_fraction, new_fraction := T_new_fraction, sum_of := T_sum_of, rest_of := T_rest_of, product_of := T_product_of, share_of := T_share_of, order_of := T_order_of, is_less := T_is_less, floor_of := T_floor_of, need_length := T_need_length, later_begin := T_later_begin, need_times := T_need_times, gap_at := T_gap_at, growth_at := T_growth_at, laps_in := T_laps_in, is_contact := T_is_contact, next_turn := T_next_turn, last_turn := T_last_turn, side_before := T_side_before, side_after := T_side_after, before_at := T_before_at, laps_before := T_laps_before, laps := T_laps, is_knot := T_is_knot, are_knots := T_are_knots, slopes_of := T_slopes_of, turns_of := T_turns_of, piece_on := T_piece_on, pace_on := T_pace_on, place_on := T_place_on, is_name := T_is_name, spot_of := T_spot_of, need_tables := T_need_tables, ordered := T_ordered, starting_order := T_starting_order, need_load := T_need_load, need_carrier := T_need_carrier, begin_of := T_begin_of, need_moment := T_need_moment, growth_of := T_growth_of, rank_at := T_rank_at, carrier_of := T_carrier_of, spot_floor := T_spot_floor, load_of := T_load_of, rank_of := T_rank_of, held_at := T_held_at, place_at := T_place_at, load_at := T_load_at, need_ring := T_need_ring, moved_by := T_moved_by, displaced := T_displaced, L_begin := T_L_begin, L_take := T_L_take, L_pick := T_L_pick, L_f := T_L_f, L_sum := T_L_sum, L_rest := T_L_rest, L_product := T_L_product, L_less := T_L_less, L_number := T_L_number, L_part := T_L_part, L_step := T_L_step, L_names := T_L_names, L_lot := T_L_lot, L_loads := T_L_loads, L_at := T_L_at, L_floor := T_L_floor, L_spot := T_L_spot, L_tables := T_L_tables, L_time := T_L_time, L_ascending := T_L_ascending, L_places := T_L_places, L_longer := T_L_longer, law := T_law, C_TrackError := C_TrackError, C_NoTable := C_NoTable, C_NoTime := C_NoTime, C_NoTrack := C_NoTrack, C_NoName := C_NoName, C_NoCarrier := C_NoCarrier, C_Timetable := C_Timetable, g_TrackError := PySem.W.mg_of X G a_TrackError, g_NoTable := PySem.W.mg_of X G a_NoTable, g_NoTime := PySem.W.mg_of X G a_NoTime, g_NoTrack := PySem.W.mg_of X G a_NoTrack, g_NoName := PySem.W.mg_of X G a_NoName, g_NoCarrier := PySem.W.mg_of X G a_NoCarrier, g_Timetable := PySem.W.mg_of X G a_Timetable, cl_Timetable := cl_Timetable, ty_Timetable := ty_Timetable, ki_Timetable := DL.kit_self, na_Timetable_points := na_Timetable_points, na_Timetable_turns := na_Timetable_turns, Timetable_init := T_Timetable_init, Timetable_begin := T_Timetable_begin, Timetable_pace := T_Timetable_pace, Timetable_at := T_Timetable_at, mk_Timetable := ⟨mk_Timetable, T_Timetable_init.me.at_, T_Timetable_init.me.fn, kc_Timetable⟩, con_Timetable_MOST := con_Timetable_MOST, a_ZERO_pairs := a_ZERO_pairs, g_ZERO_pairs := PySem.W.mg_of X G n_ZERO_pairs, t_ZERO_pairs := t_ZERO_pairs, a_ZERO_tables := a_ZERO_tables, g_ZERO_tables := PySem.W.mg_of X G n_ZERO_tables, t_ZERO_tables := t_ZERO_tables, c_MOST_LOADS := ⟨u_MOST_LOADS, PySem.W.mg_of X G n_MOST_LOADS, r_MOST_LOADS⟩, c_LETTERS := ⟨u_LETTERS, PySem.W.mg_of X G n_LETTERS, r_LETTERS⟩, c_ordered := c_ordered, P_ordered := P_ordered, cd_ordered := cd_ordered, m_isinstance := PySem.W.mg_none_of X G z_isinstance, m_int := PySem.W.mg_none_of X G z_int, m_bool := PySem.W.mg_none_of X G z_bool, m_abs := PySem.W.mg_none_of X G z_abs, m_tuple := PySem.W.mg_none_of X G z_tuple, m_len := PySem.W.mg_none_of X G z_len, m_range := PySem.W.mg_none_of X G z_range, m_list := PySem.W.mg_none_of X G z_list, m_zip := PySem.W.mg_none_of X G z_zip, m_str := PySem.W.mg_none_of X G z_str, m_all := PySem.W.mg_none_of X G z_all, m_dict := PySem.W.mg_none_of X G z_dict, m_sorted := PySem.W.mg_none_of X G z_sorted, m_min := PySem.W.mg_none_of X G z_min, m_enumerate := PySem.W.mg_none_of X G z_enumerate }, rfl, rfl⟩
  have LT : DL.LTab K T.c_ordered T.P_ordered := by rw [e2, e3]; exact ⟨hd_ordered, no_ordered⟩
  have e := hfa.symm.trans T.law.g
  cases e
  exact DL.lawAt_mk X LT (by rw [e3]; exact em_ordered) (DL.law_bind T.law.F fun _ _ _ _ _ _ us hl => match us, hl with | [_], _ => rfl) fun base hK hN hT => ok_law T hT

end My
open PySem PySem.W PyProof.Rows
set_option maxRecDepth 100000 in
set_option maxHeartbeats 0 in
theorem PySem.Challenge.cw_handedpast_k99_whole_twelve_loads_far_holds : PySem.Challenge.rw_handedpast_k99_whole_twelve_loads_far.Holds := by
  w_on; o_law; k_head; (case hw => w_witness2)
  k_fill
  refine DL.walk_ofDL (l := PySem.Challenge.rw_handedpast_k99_whole_twelve_loads_far) (n := 63) (k := 15) (x := "script") (CX := fun w => L2.CX PySem.Challenge.pw_handedpast_k99_whole_twelve_loads_far w) rfl (by decide) rfl ⟨rfl, by decide, by decide⟩ (fun w h Y => PySem.W.km_in_of Y) ?F ?C
  case C =>
    intro w H s e s' hc
    exact DL.cx_no hc
  case F =>
    intro w mg fa h Y8 KX G hmg own8
    refine' My.all_mk (l := PySem.Challenge.rw_handedpast_k99_whole_twelve_loads_far) KX G hmg ?T_is_whole ?T_common_divisor ?T_is_fraction ?T_new_fraction ?T_sum_of ?T_rest_of ?T_product_of ?T_share_of ?T_order_of ?T_is_less ?T_floor_of ?T_need_length ?T_later_begin ?T_need_times ?T_gap_at ?T_growth_at ?T_laps_in ?T_is_contact ?T_next_turn ?T_last_turn ?T_side_before ?T_side_after ?T_before_at ?T_laps_before ?T_laps ?T_is_knot ?T_are_knots ?T_slopes_of ?T_turns_of ?T_piece_on ?T_pace_on ?T_place_on ?T_is_name ?T_spot_of ?T_need_tables ?T_ordered ?T_starting_order ?T_need_load ?T_need_carrier ?T_begin_of ?T_need_moment ?T_growth_of ?T_rank_at ?T_carrier_of ?T_spot_floor ?T_load_of ?T_rank_of ?T_held_at ?T_place_at ?T_load_at ?T_need_ring ?T_moved_by ?T_displaced ?T_L_begin ?T_L_take ?T_L_pick ?T_L_f ?T_L_sum ?T_L_rest ?T_L_product ?T_L_less ?T_L_number ?T_L_part ?T_L_step ?T_L_names ?T_L_lot ?T_L_loads ?T_L_at ?T_L_floor ?T_L_spot ?T_L_tables ?T_L_time ?T_L_ascending ?T_L_places ?T_L_longer ?T_law ?a_TrackError ?a_NoTable ?a_NoTime ?a_NoTrack ?a_NoName ?a_NoCarrier ?a_Timetable ?cl_Timetable ?ty_Timetable ?na_Timetable_points ?na_Timetable_turns ?T_Timetable_init ?T_Timetable_begin ?T_Timetable_pace ?T_Timetable_at ?mk_Timetable ?kc_Timetable ?con_Timetable_MOST ?n_ZERO_pairs ?t_ZERO_pairs ?n_ZERO_tables ?t_ZERO_tables ?n_MOST_LOADS ?r_MOST_LOADS ?n_LETTERS ?r_LETTERS ?cd_ordered ?em_ordered ?hd_ordered ?no_ordered ?z_isinstance ?z_int ?z_bool ?z_abs ?z_tuple ?z_len ?z_range ?z_list ?z_zip ?z_str ?z_all ?z_dict ?z_sorted ?z_min ?z_enumerate
    (case a_TrackError => k_is)
    (case a_NoTable => k_is)
    (case a_NoTime => k_is)
    (case a_NoTrack => k_is)
    (case a_NoName => k_is)
    (case a_NoCarrier => k_is)
    (case a_Timetable => k_is)
    (case T_is_whole => refine' DL.fnT_mk KX G ?a9 ?l9 ?c9 ?k9; (case a9 => k_is); (case l9 => k_is); (case c9 => k_is); (case k9 => k_is))
    (case T_common_divisor => refine' DL.fnT_mk KX G ?a9 ?l9 ?c9 ?k9; (case a9 => k_is); (case l9 => k_is); (case c9 => k_is); (case k9 => k_is))
    (case T_is_fraction => refine' DL.fnT_mk KX G ?a9 ?l9 ?c9 ?k9; (case a9 => k_is); (case l9 => k_is); (case c9 => k_is); (case k9 => k_is))
    (case T_new_fraction => refine' DL.fnT_mkD KX G ?a9 ?l9 ?c9 ?k9 ?t9 ?r9 ?d9; (case a9 => k_is); (case l9 => k_is); (case c9 => k_is); (case k9 => k_is); (case t9 => k_is); (case r9 => exact .cons ⟨_, rfl⟩ (.nil)); (case d9 => exact List.cons_ne_nil _ _))
    (case T_sum_of => refine' DL.fnT_mk KX G ?a9 ?l9 ?c9 ?k9; (case a9 => k_is); (case l9 => k_is); (case c9 => k_is); (case k9 => k_is))
    (case T_rest_of => refine' DL.fnT_mk KX G ?a9 ?l9 ?c9 ?k9; (case a9 => k_is); (case l9 => k_is); (case c9 => k_is); (case k9 => k_is))
    (case T_product_of => refine' DL.fnT_mk KX G ?a9 ?l9 ?c9 ?k9; (case a9 => k_is); (case l9 => k_is); (case c9 => k_is); (case k9 => k_is))
    (case T_share_of => refine' DL.fnT_mk KX G ?a9 ?l9 ?c9 ?k9; (case a9 => k_is); (case l9 => k_is); (case c9 => k_is); (case k9 => k_is))
    (case T_order_of => refine' DL.fnT_mk KX G ?a9 ?l9 ?c9 ?k9; (case a9 => k_is); (case l9 => k_is); (case c9 => k_is); (case k9 => k_is))
    (case T_is_less => refine' DL.fnT_mk KX G ?a9 ?l9 ?c9 ?k9; (case a9 => k_is); (case l9 => k_is); (case c9 => k_is); (case k9 => k_is))
    (case T_floor_of => refine' DL.fnT_mk KX G ?a9 ?l9 ?c9 ?k9; (case a9 => k_is); (case l9 => k_is); (case c9 => k_is); (case k9 => k_is))
    (case T_need_length => refine' DL.fnT_mk KX G ?a9 ?l9 ?c9 ?k9; (case a9 => k_is); (case l9 => k_is); (case c9 => k_is); (case k9 => k_is))
    (case T_later_begin => refine' DL.fnT_mk KX G ?a9 ?l9 ?c9 ?k9; (case a9 => k_is); (case l9 => k_is); (case c9 => k_is); (case k9 => k_is))
    (case T_need_times => refine' DL.fnT_mk KX G ?a9 ?l9 ?c9 ?k9; (case a9 => k_is); (case l9 => k_is); (case c9 => k_is); (case k9 => k_is))
    (case T_gap_at => refine' DL.fnT_mk KX G ?a9 ?l9 ?c9 ?k9; (case a9 => k_is); (case l9 => k_is); (case c9 => k_is); (case k9 => k_is))
    (case T_growth_at => refine' DL.fnT_mk KX G ?a9 ?l9 ?c9 ?k9; (case a9 => k_is); (case l9 => k_is); (case c9 => k_is); (case k9 => k_is))
    (case T_laps_in => refine' DL.fnT_mk KX G ?a9 ?l9 ?c9 ?k9; (case a9 => k_is); (case l9 => k_is); (case c9 => k_is); (case k9 => k_is))
    (case T_is_contact => refine' DL.fnT_mk KX G ?a9 ?l9 ?c9 ?k9; (case a9 => k_is); (case l9 => k_is); (case c9 => k_is); (case k9 => k_is))
    (case T_next_turn => refine' DL.fnT_mk KX G ?a9 ?l9 ?c9 ?k9; (case a9 => k_is); (case l9 => k_is); (case c9 => k_is); (case k9 => k_is))
    (case T_last_turn => refine' DL.fnT_mk KX G ?a9 ?l9 ?c9 ?k9; (case a9 => k_is); (case l9 => k_is); (case c9 => k_is); (case k9 => k_is))
    (case T_side_before => refine' DL.fnT_mk KX G ?a9 ?l9 ?c9 ?k9; (case a9 => k_is); (case l9 => k_is); (case c9 => k_is); (case k9 => k_is))
    (case T_side_after => refine' DL.fnT_mk KX G ?a9 ?l9 ?c9 ?k9; (case a9 => k_is); (case l9 => k_is); (case c9 => k_is); (case k9 => k_is))
    (case T_before_at => refine' DL.fnT_mk KX G ?a9 ?l9 ?c9 ?k9; (case a9 => k_is); (case l9 => k_is); (case c9 => k_is); (case k9 => k_is))
    (case T_laps_before => refine' DL.fnT_mk KX G ?a9 ?l9 ?c9 ?k9; (case a9 => k_is); (case l9 => k_is); (case c9 => k_is); (case k9 => k_is))
    (case T_laps => refine' DL.fnT_mkK KX G ?a9 ?l9 ?c9 ?k9 ?g9 ?r9; (case a9 => k_is); (case l9 => k_is); (case c9 => k_is); (case k9 => k_is); (case g9 => k_is); (case r9 => exact rfl))
    (case T_is_knot => refine' DL.fnT_mk KX G ?a9 ?l9 ?c9 ?k9; (case a9 => k_is); (case l9 => k_is); (case c9 => k_is); (case k9 => k_is))
    (case T_are_knots => refine' DL.fnT_mk KX G ?a9 ?l9 ?c9 ?k9; (case a9 => k_is); (case l9 => k_is); (case c9 => k_is); (case k9 => k_is))
    (case T_slopes_of => refine' DL.fnT_mk KX G ?a9 ?l9 ?c9 ?k9; (case a9 => k_is); (case l9 => k_is); (case c9 => k_is); (case k9 => k_is))
    (case T_turns_of => refine' DL.fnT_mk KX G ?a9 ?l9 ?c9 ?k9; (case a9 => k_is); (case l9 => k_is); (case c9 => k_is); (case k9 => k_is))
    (case T_piece_on => refine' DL.fnT_mk KX G ?a9 ?l9 ?c9 ?k9; (case a9 => k_is); (case l9 => k_is); (case c9 => k_is); (case k9 => k_is))
    (case T_pace_on => refine' DL.fnT_mk KX G ?a9 ?l9 ?c9 ?k9; (case a9 => k_is); (case l9 => k_is); (case c9 => k_is); (case k9 => k_is))
    (case T_place_on => refine' DL.fnT_mk KX G ?a9 ?l9 ?c9 ?k9; (case a9 => k_is); (case l9 => k_is); (case c9 => k_is); (case k9 => k_is))
    (case T_is_name => refine' DL.fnT_mk KX G ?a9 ?l9 ?c9 ?k9; (case a9 => k_is); (case l9 => k_is); (case c9 => k_is); (case k9 => k_is))
    (case T_spot_of => refine' DL.fnT_mk KX G ?a9 ?l9 ?c9 ?k9; (case a9 => k_is); (case l9 => k_is); (case c9 => k_is); (case k9 => k_is))
    (case T_need_tables => refine' DL.fnT_mk KX G ?a9 ?l9 ?c9 ?k9; (case a9 => k_is); (case l9 => k_is); (case c9 => k_is); (case k9 => k_is))
    (case T_ordered => refine' DL.fnT_mk KX G ?a9 ?l9 ?c9 ?k9; (case a9 => k_is); (case l9 => k_is); (case c9 => k_is); (case k9 => k_is))
    (case T_starting_order => refine' DL.fnT_mk KX G ?a9 ?l9 ?c9 ?k9; (case a9 => k_is); (case l9 => k_is); (case c9 => k_is); (case k9 => k_is))
    (case T_need_load => refine' DL.fnT_mk KX G ?a9 ?l9 ?c9 ?k9; (case a9 => k_is); (case l9 => k_is); (case c9 => k_is); (case k9 => k_is))
    (case T_need_carrier => refine' DL.fnT_mk KX G ?a9 ?l9 ?c9 ?k9; (case a9 => k_is); (case l9 => k_is); (case c9 => k_is); (case k9 => k_is))
    (case T_begin_of => refine' DL.fnT_mk KX G ?a9 ?l9 ?c9 ?k9; (case a9 => k_is); (case l9 => k_is); (case c9 => k_is); (case k9 => k_is))
    (case T_need_moment => refine' DL.fnT_mk KX G ?a9 ?l9 ?c9 ?k9; (case a9 => k_is); (case l9 => k_is); (case c9 => k_is); (case k9 => k_is))
    (case T_growth_of => refine' DL.fnT_mk KX G ?a9 ?l9 ?c9 ?k9; (case a9 => k_is); (case l9 => k_is); (case c9 => k_is); (case k9 => k_is))
    (case T_rank_at => refine' DL.fnT_mk KX G ?a9 ?l9 ?c9 ?k9; (case a9 => k_is); (case l9 => k_is); (case c9 => k_is); (case k9 => k_is))
    (case T_carrier_of => refine' DL.fnT_mk KX G ?a9 ?l9 ?c9 ?k9; (case a9 => k_is); (case l9 => k_is); (case c9 => k_is); (case k9 => k_is))
    (case T_spot_floor => refine' DL.fnT_mk KX G ?a9 ?l9 ?c9 ?k9; (case a9 => k_is); (case l9 => k_is); (case c9 => k_is); (case k9 => k_is))
    (case T_load_of => refine' DL.fnT_mk KX G ?a9 ?l9 ?c9 ?k9; (case a9 => k_is); (case l9 => k_is); (case c9 => k_is); (case k9 => k_is))
    (case T_rank_of => refine' DL.fnT_mkK KX G ?a9 ?l9 ?c9 ?k9 ?g9 ?r9; (case a9 => k_is); (case l9 => k_is); (case c9 => k_is); (case k9 => k_is); (case g9 => k_is); (case r9 => exact rfl))
    (case T_held_at => refine' DL.fnT_mkK KX G ?a9 ?l9 ?c9 ?k9 ?g9 ?r9; (case a9 => k_is); (case l9 => k_is); (case c9 => k_is); (case k9 => k_is); (case g9 => k_is); (case r9 => exact rfl))
    (case T_place_at => refine' DL.fnT_mkK KX G ?a9 ?l9 ?c9 ?k9 ?g9 ?r9; (case a9 => k_is); (case l9 => k_is); (case c9 => k_is); (case k9 => k_is); (case g9 => k_is); (case r9 => exact rfl))
    (case T_load_at => refine' DL.fnT_mkK KX G ?a9 ?l9 ?c9 ?k9 ?g9 ?r9; (case a9 => k_is); (case l9 => k_is); (case c9 => k_is); (case k9 => k_is); (case g9 => k_is); (case r9 => exact rfl))
    (case T_need_ring => refine' DL.fnT_mk KX G ?a9 ?l9 ?c9 ?k9; (case a9 => k_is); (case l9 => k_is); (case c9 => k_is); (case k9 => k_is))
    (case T_moved_by => refine' DL.fnT_mk KX G ?a9 ?l9 ?c9 ?k9; (case a9 => k_is); (case l9 => k_is); (case c9 => k_is); (case k9 => k_is))
    (case T_displaced => refine' DL.fnT_mk KX G ?a9 ?l9 ?c9 ?k9; (case a9 => k_is); (case l9 => k_is); (case c9 => k_is); (case k9 => k_is))
    (case T_L_begin => refine' DL.fnT_mk KX G ?a9 ?l9 ?c9 ?k9; (case a9 => k_is); (case l9 => k_is); (case c9 => k_is); (case k9 => k_is))
    (case T_L_take => refine' DL.fnT_mk KX G ?a9 ?l9 ?c9 ?k9; (case a9 => k_is); (case l9 => k_is); (case c9 => k_is); (case k9 => k_is))
    (case T_L_pick => refine' DL.fnT_mk KX G ?a9 ?l9 ?c9 ?k9; (case a9 => k_is); (case l9 => k_is); (case c9 => k_is); (case k9 => k_is))
    (case T_L_f => refine' DL.fnT_mk KX G ?a9 ?l9 ?c9 ?k9; (case a9 => k_is); (case l9 => k_is); (case c9 => k_is); (case k9 => k_is))
    (case T_L_sum => refine' DL.fnT_mk KX G ?a9 ?l9 ?c9 ?k9; (case a9 => k_is); (case l9 => k_is); (case c9 => k_is); (case k9 => k_is))
    (case T_L_rest => refine' DL.fnT_mk KX G ?a9 ?l9 ?c9 ?k9; (case a9 => k_is); (case l9 => k_is); (case c9 => k_is); (case k9 => k_is))
    (case T_L_product => refine' DL.fnT_mk KX G ?a9 ?l9 ?c9 ?k9; (case a9 => k_is); (case l9 => k_is); (case c9 => k_is); (case k9 => k_is))
    (case T_L_less => refine' DL.fnT_mk KX G ?a9 ?l9 ?c9 ?k9; (case a9 => k_is); (case l9 => k_is); (case c9 => k_is); (case k9 => k_is))
    (case T_L_number => refine' DL.fnT_mk KX G ?a9 ?l9 ?c9 ?k9; (case a9 => k_is); (case l9 => k_is); (case c9 => k_is); (case k9 => k_is))
    (case T_L_part => refine' DL.fnT_mk KX G ?a9 ?l9 ?c9 ?k9; (case a9 => k_is); (case l9 => k_is); (case c9 => k_is); (case k9 => k_is))
    (case T_L_step => refine' DL.fnT_mk KX G ?a9 ?l9 ?c9 ?k9; (case a9 => k_is); (case l9 => k_is); (case c9 => k_is); (case k9 => k_is))
    (case T_L_names => refine' DL.fnT_mk KX G ?a9 ?l9 ?c9 ?k9; (case a9 => k_is); (case l9 => k_is); (case c9 => k_is); (case k9 => k_is))
    (case T_L_lot => refine' DL.fnT_mk KX G ?a9 ?l9 ?c9 ?k9; (case a9 => k_is); (case l9 => k_is); (case c9 => k_is); (case k9 => k_is))
    (case T_L_loads => refine' DL.fnT_mk KX G ?a9 ?l9 ?c9 ?k9; (case a9 => k_is); (case l9 => k_is); (case c9 => k_is); (case k9 => k_is))
    (case T_L_at => refine' DL.fnT_mk KX G ?a9 ?l9 ?c9 ?k9; (case a9 => k_is); (case l9 => k_is); (case c9 => k_is); (case k9 => k_is))
    (case T_L_floor => refine' DL.fnT_mk KX G ?a9 ?l9 ?c9 ?k9; (case a9 => k_is); (case l9 => k_is); (case c9 => k_is); (case k9 => k_is))
    (case T_L_spot => refine' DL.fnT_mk KX G ?a9 ?l9 ?c9 ?k9; (case a9 => k_is); (case l9 => k_is); (case c9 => k_is); (case k9 => k_is))
    (case T_L_tables => refine' DL.fnT_mk KX G ?a9 ?l9 ?c9 ?k9; (case a9 => k_is); (case l9 => k_is); (case c9 => k_is); (case k9 => k_is))
    (case T_L_time => refine' DL.fnT_mk KX G ?a9 ?l9 ?c9 ?k9; (case a9 => k_is); (case l9 => k_is); (case c9 => k_is); (case k9 => k_is))
    (case T_L_ascending => refine' DL.fnT_mk KX G ?a9 ?l9 ?c9 ?k9; (case a9 => k_is); (case l9 => k_is); (case c9 => k_is); (case k9 => k_is))
    (case T_L_places => refine' DL.fnT_mk KX G ?a9 ?l9 ?c9 ?k9; (case a9 => k_is); (case l9 => k_is); (case c9 => k_is); (case k9 => k_is))
    (case T_L_longer => refine' DL.fnT_mk KX G ?a9 ?l9 ?c9 ?k9; (case a9 => k_is); (case l9 => k_is); (case c9 => k_is); (case k9 => k_is))
    (case T_law => refine' DL.fnT_mk KX G ?a9 ?l9 ?c9 ?k9; (case a9 => k_is); (case l9 => k_is); (case c9 => k_is); (case k9 => k_is))
    (case cl_Timetable => refine' ⟨?a9, ?b9, ?c9, ?d9⟩; (case a9 => k_is); (case b9 => k_is); (case c9 => k_is); (case d9 => k_is))
    (case ty_Timetable => refine' ⟨⟨?a9, ?b9, ?c9, ?d9⟩, ?e9, ?f9, ?g9, ?h9⟩; (case a9 => k_is); (case b9 => k_is); (case c9 => k_is); (case d9 => k_is); (case e9 => k_is); (case f9 => k_is); (case g9 => k_is); (case h9 => k_is))
    (case na_Timetable_points => unfold L2.NoAttr; k_is)
    (case na_Timetable_turns => unfold L2.NoAttr; k_is)
    (case T_Timetable_init => refine' DL.meT_mk ?a9 ?i9 ?l9 ?c9 ?k9; (case a9 => k_is); (case i9 => k_is); (case l9 => k_is); (case c9 => k_is); (case k9 => k_is))
    (case T_Timetable_begin => refine' DL.meT_mk ?a9 ?i9 ?l9 ?c9 ?k9; (case a9 => k_is); (case i9 => k_is); (case l9 => k_is); (case c9 => k_is); (case k9 => k_is))
    (case T_Timetable_pace => refine' DL.meT_mk ?a9 ?i9 ?l9 ?c9 ?k9; (case a9 => k_is); (case i9 => k_is); (case l9 => k_is); (case c9 => k_is); (case k9 => k_is))
    (case T_Timetable_at => refine' DL.meT_mk ?a9 ?i9 ?l9 ?c9 ?k9; (case a9 => k_is); (case i9 => k_is); (case l9 => k_is); (case c9 => k_is); (case k9 => k_is))
    (case mk_Timetable => k_is)
    (case kc_Timetable => k_is)
    (case con_Timetable_MOST => refine' ⟨_, ?a9, ?r9, ?g9, ?c9⟩; (case a9 => k_is); (case r9 => exact ⟨_, rfl⟩); (case g9 => k_is); (case c9 => rfl))
    (case n_ZERO_pairs => k_is)
    (case t_ZERO_pairs => refine' DL.tup_mk (vs := [.int 0, .int 1]) ?l9 ?z9 ?r9 ?q9; (case l9 => k_is); (case z9 => decide); (case r9 => exact .cons ⟨_, rfl⟩ (.cons ⟨_, rfl⟩ (.nil))); (case q9 => exact fun F => .cons (.int _) (.cons (.int _) (.nil))))
    (case n_ZERO_tables => k_is)
    (case t_ZERO_tables => refine' DL.tup_mk (vs := [.int 0, .int 1]) ?l9 ?z9 ?r9 ?q9; (case l9 => k_is); (case z9 => decide); (case r9 => exact .cons ⟨_, rfl⟩ (.cons ⟨_, rfl⟩ (.nil))); (case q9 => exact fun F => .cons (.int _) (.cons (.int _) (.nil))))
    (case n_MOST_LOADS => k_is)
    (case r_MOST_LOADS => exact ⟨_, rfl⟩)
    (case n_LETTERS => k_is)
    (case r_LETTERS => exact ⟨_, rfl⟩)
    (case cd_ordered => exact rfl)
    (case em_ordered => exact PySem.W.km_tabs_of Y8 _ List.mem_cons_self)
    (case hd_ordered => exact rfl)
    (case no_ordered => exact rfl)
    (case z_isinstance => k_is)
    (case z_int => k_is)
    (case z_bool => k_is)
    (case z_abs => k_is)
    (case z_tuple => k_is)
    (case z_len => k_is)
    (case z_range => k_is)
    (case z_list => k_is)
    (case z_zip => k_is)
    (case z_str => k_is)
    (case z_all => k_is)
    (case z_dict => k_is)
    (case z_sorted => k_is)
    (case z_min => k_is)
    (case z_enumerate => k_is)
