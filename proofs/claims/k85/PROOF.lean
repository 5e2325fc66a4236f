import PyProof.Rows.All
import Wide.All
import OpenK.AllK
import Wide.FinOn
import HandS.ForMost
import HandS.ForExc
import HandS.Wide
import HandS.TupAny
import HandS.More
import HandS.Deep
import HandS.IsInst
import HandS.FStr
import HandS.Zip
import HandS.Defaults
import HandS.ExcInit
import HandS.OwnEq
import HandS.Codes
import HandS.Text
import HandS.ExcIs
import HandS.ExcField
import HandS.ExcOwn
import HandS.ExcValue
import KE.KIsAll
import KE.KTryMore
import HandS.WordsExc
import HandS.Ends
import HandS.Replace
import HandS.Style
import HandS.RaiseMore
import PySem.Challenge.RW_handedpast_k85_table_texts_spoilt
set_option Elab.async false
set_option linter.all false
set_option maxRecDepth 100000
set_option maxHeartbeats 4000000
/-! DL: a layer of plain data over the hand layer. -/
namespace DL
open PySem L2

/-- plain data: what a value stands for -/
inductive D where
  | non | bl (b : Bool) | int (i : Int) | str (x : Str) | tup (xs : List D) | lst (xs : List D) | ro (xs : List D)
  | dct (kvs : List (Key × D)) | ins (C : Addr) (fs : List (Str × D)) | raw (a : Addr) | ty (n : String) | exc (C : Addr) (fs : List (Str × D))

/-- a thing that is owned and may change -/
inductive MO where
  | lst (xs : List D) | dct (kvs : List (Key × D)) | ins (C : Addr) (fs : List (Str × D))
abbrev Mem := List (Addr × MO)
abbrev DS := List (Option D)
abbrev dom (M : Mem) : List Addr := M.map (·.1)

def Ex (H H' : Hp) : Prop := ∀ a o, H a = some o → H' a = some o
theorem Ex.refl (H : Hp) : Ex H H := fun _ _ h => h
theorem Ex.trans {H H1 H2 : Hp} (a : Ex H H1) (b : Ex H1 H2) : Ex H H2 := fun x o h => b x o (a x o h)
theorem Ex.new {H : Hp} {p : Addr} {o : HO} (h : H p = none) : Ex H (upd H p o) := fun a u e => by
  rw [upd_ne (ne_of_none e h)]
  exact e
theorem ex_rd {H H' : Hp} {a : Addr} {u : HO} (e : Ex H H') (h : Rd H a u) : Rd H' a u := by
  rcases h with h | ⟨o, h⟩
  · exact Or.inl (e a _ h)
  · exact Or.inr ⟨o, e a _ h⟩
theorem ex_l {K : PySem.W.Frag} {H H' : Hp} {a : Addr} {xs : List V} (e : Ex H H') (h : SqL K H a xs) : SqL K H' a xs := by
  rcases h with h | h
  · exact Or.inl (ex_rd e h)
  · exact Or.inr h
theorem ex_t {K : PySem.W.Frag} {H H' : Hp} {a : Addr} {xs : List V} (e : Ex H H') (h : SqT K H a xs) : SqT K H' a xs := by
  rcases h with h | h
  · exact Or.inl (ex_rd e h)
  · exact Or.inr h

/-- a caught exception that a variable holds: the class at C, its dict (none | at d) -/
def exV (a C : Addr) (d : Option Addr) : HO := .ext fun h => ∃ oe, h.get? a = some oe ∧ Zc (.ref C) d oe ∧ ∃ vs, oe.data = .fields vs
/-- the fields of an exception -/
def XD (F : Hp) (d : Option Addr) (gs : List (Str × V)) : Prop := match d with
  | none => gs = []
  | some p => F p = some (.xd gs)
theorem XD.mono {F F' : Hp} (e : Ex F F') {d : Option Addr} {gs : List (Str × V)} (h : XD F d gs) : XD F' d gs := by
  cases d with
  | none => exact h
  | some p => exact e _ _ h
mutual
inductive Rep (K : PySem.W.Frag) (F : Hp) : D → V → Prop
  | non : Rep K F .non .non
  | bl (b : Bool) : Rep K F (.bl b) (.bl b)
  | int (i : Int) : Rep K F (.int i) (.int i)
  | str (x : Str) : Rep K F (.str x) (.str x)
  | ty (n : String) : Rep K F (.ty n) (.ty n)
  | raw (a : Addr) : Rep K F (.raw a) (.ref a)
  | tup {a : Addr} {vs : List V} {ds : List D} : SqT K F a vs → Reps K F ds vs → Rep K F (.tup ds) (.ref a)
  | lst {a : Addr} {vs : List V} {ds : List D} : F a = some (.lst vs) → Reps K F ds vs → Rep K F (.lst ds) (.ref a)
  | ro {a : Addr} {vs : List V} {ds : List D} : SqL K F a vs → Reps K F ds vs → Rep K F (.ro ds) (.ref a)
  | dct {a : Addr} {es : List (Key × D)} {kvs : List (Key × V)} : F a = some (.dK kvs) → RepK K F es kvs → Rep K F (.dct es) (.ref a)
  | ins {a C dx : Addr} {fs : List (Str × D)} {gs : List (Str × V)} : F a = some (.ins C dx gs) → RepF K F fs gs → Rep K F (.ins C fs) (.ref a)
  | exc {a C : Addr} {d : Option Addr} {fs : List (Str × D)} {gs : List (Str × V)} : F a = some (exV a C d) → XD F d gs → RepF K F fs gs → Rep K F (.exc C fs) (.ref a)
inductive Reps (K : PySem.W.Frag) (F : Hp) : List D → List V → Prop
  | nil : Reps K F [] []
  | cons {d : D} {v : V} {ds : List D} {vs : List V} : Rep K F d v → Reps K F ds vs → Reps K F (d :: ds) (v :: vs)
inductive RepK (K : PySem.W.Frag) (F : Hp) : List (Key × D) → List (Key × V) → Prop
  | nil : RepK K F [] []
  | cons {n : Key} {d : D} {v : V} {fs : List (Key × D)} {gs : List (Key × V)} : Rep K F d v → RepK K F fs gs → RepK K F ((n, d) :: fs) ((n, v) :: gs)
inductive RepF (K : PySem.W.Frag) (F : Hp) : List (Str × D) → List (Str × V) → Prop
  | nil : RepF K F [] []
  | cons {n : Str} {d : D} {v : V} {fs : List (Str × D)} {gs : List (Str × V)} : Rep K F d v → RepF K F fs gs → RepF K F ((n, d) :: fs) ((n, v) :: gs)
end

section
variable {K : PySem.W.Frag} {F F' : Hp}
mutual
theorem Rep.mono (e : Ex F F') : ∀ {d : D} {v : V}, Rep K F d v → Rep K F' d v
  | _, _, .non => .non
  | _, _, .bl b => .bl b
  | _, _, .int i => .int i
  | _, _, .str x => .str x
  | _, _, .ty n => .ty n
  | _, _, .raw a => .raw a
  | _, _, .tup h r => .tup (ex_t e h) (Reps.mono e r)
  | _, _, .lst h r => .lst (e _ _ h) (Reps.mono e r)
  | _, _, .ro h r => .ro (ex_l e h) (Reps.mono e r)
  | _, _, .dct h r => .dct (e _ _ h) (RepK.mono e r)
  | _, _, .ins h r => .ins (e _ _ h) (RepF.mono e r)
  | _, _, .exc h x r => .exc (e _ _ h) (x.mono e) (RepF.mono e r)
theorem Reps.mono (e : Ex F F') : ∀ {ds : List D} {vs : List V}, Reps K F ds vs → Reps K F' ds vs
  | _, _, .nil => .nil
  | _, _, .cons h r => .cons (Rep.mono e h) (Reps.mono e r)
theorem RepK.mono (e : Ex F F') : ∀ {fs : List (Key × D)} {gs : List (Key × V)}, RepK K F fs gs → RepK K F' fs gs
  | _, _, .nil => .nil
  | _, _, .cons h r => .cons (Rep.mono e h) (RepK.mono e r)
theorem RepF.mono (e : Ex F F') : ∀ {fs : List (Str × D)} {gs : List (Str × V)}, RepF K F fs gs → RepF K F' fs gs
  | _, _, .nil => .nil
  | _, _, .cons h r => .cons (Rep.mono e h) (RepF.mono e r)
end

theorem Reps.length : ∀ {ds : List D} {vs : List V}, Reps K F ds vs → ds.length = vs.length
  | _, _, .nil => rfl
  | _, _, .cons _ r => by rw [List.length_cons, List.length_cons, Reps.length r]
theorem Reps.get : ∀ {ds : List D} {vs : List V} {i : Nat} {d : D}, Reps K F ds vs → ds[i]? = some d → ∃ v, vs[i]? = some v ∧ Rep K F d v
  | _, _, _, _, .nil, h => by simp at h
  | _, _, 0, _, .cons h _, e => by
    have e' := Option.some.inj e
    subst e'
    exact ⟨_, rfl, h⟩
  | _, _, i + 1, d, .cons _ r, e => Reps.get (i := i) r e
theorem Reps.getV : ∀ {ds : List D} {vs : List V} {i : Nat} {v : V}, Reps K F ds vs → vs[i]? = some v → ∃ d, ds[i]? = some d ∧ Rep K F d v
  | _, _, _, _, .nil, h => by simp at h
  | _, _, 0, _, .cons h _, e => by
    have e' := Option.some.inj e
    subst e'
    exact ⟨_, rfl, h⟩
  | _, _, i + 1, d, .cons _ r, e => Reps.getV (i := i) r e
theorem Reps.append : ∀ {ds es : List D} {vs us : List V}, Reps K F ds vs → Reps K F es us → Reps K F (ds ++ es) (vs ++ us)
  | _, _, _, _, .nil, s => s
  | _, _, _, _, .cons h r, s => .cons h (Reps.append r s)
theorem Reps.take : ∀ {ds : List D} {vs : List V} (n : Nat), Reps K F ds vs → Reps K F (ds.take n) (vs.take n)
  | _, _, 0, _ => .nil
  | _, _, _ + 1, .nil => .nil
  | _, _, n + 1, .cons h r => .cons h (Reps.take n r)
theorem Reps.drop : ∀ {ds : List D} {vs : List V} (n : Nat), Reps K F ds vs → Reps K F (ds.drop n) (vs.drop n)
  | _, _, 0, r => r
  | _, _, _ + 1, .nil => .nil
  | _, _, n + 1, .cons _ r => Reps.drop n r
theorem Reps.set {d : D} {v : V} (h : Rep K F d v) : ∀ {ds : List D} {vs : List V} (i : Nat), Reps K F ds vs → Reps K F (ds.set i d) (vs.set i v)
  | _, _, _, .nil => .nil
  | _, _, 0, .cons _ r => .cons h r
  | _, _, i + 1, .cons q r => .cons q (Reps.set h i r)
theorem Reps.eraseIdx : ∀ {ds : List D} {vs : List V} (i : Nat), Reps K F ds vs → Reps K F (ds.eraseIdx i) (vs.eraseIdx i)
  | _, _, _, .nil => .nil
  | _, _, 0, .cons _ r => r
  | _, _, i + 1, .cons q r => .cons q (Reps.eraseIdx i r)
theorem Reps.reverse : ∀ {ds : List D} {vs : List V}, Reps K F ds vs → Reps K F ds.reverse vs.reverse
  | _, _, .nil => .nil
  | _, _, .cons h r => by
    rw [List.reverse_cons, List.reverse_cons]
    exact Reps.append (Reps.reverse r) (.cons h .nil)
theorem Reps.ints : ∀ {ns : List Int} {vs : List V}, Reps K F (ns.map D.int) vs → vs = ns.map V.int
  | [], _, .nil => rfl
  | _ :: _, _, .cons h r => by
    cases h
    rw [Reps.ints r]
    all_goals rfl
theorem Reps.ofInts : ∀ (ns : List Int), Reps K F (ns.map D.int) (ns.map V.int)
  | [] => .nil
  | _ :: r => .cons (.int _) (Reps.ofInts r)
theorem Reps.strs : ∀ {ns : List Str} {vs : List V}, Reps K F (ns.map D.str) vs → vs = ns.map V.str
  | [], _, .nil => rfl
  | _ :: _, _, .cons h r => by
    cases h
    rw [Reps.strs r]
    all_goals rfl
theorem Reps.ofStrs : ∀ (ns : List Str), Reps K F (ns.map D.str) (ns.map V.str)
  | [] => .nil
  | _ :: r => .cons (.str _) (Reps.ofStrs r)
theorem Reps.bls : ∀ {ns : List Bool} {vs : List V}, Reps K F (ns.map D.bl) vs → vs = ns.map V.bl
  | [], _, .nil => rfl
  | _ :: _, _, .cons h r => by
    cases h
    rw [Reps.bls r]
    all_goals rfl
theorem RepF.lookup : ∀ {fs : List (Str × D)} {gs : List (Str × V)} {n : Str} {d : D}, RepF K F fs gs → fs.lookup n = some d → ∃ v, gs.lookup n = some v ∧ Rep K F d v
  | _, _, _, _, .nil, h => by simp at h
  | (m, d0) :: fs, _, n, d, .cons h r, e => by
    cases q : n == m with
    | true =>
      simp only [List.lookup, q] at e ⊢
      cases e
      exact ⟨_, rfl, h⟩
    | false =>
      simp only [List.lookup, q] at e ⊢
      exact RepF.lookup r e
theorem RepF.lookupN : ∀ {fs : List (Str × D)} {gs : List (Str × V)} {n : Str}, RepF K F fs gs → fs.lookup n = none → gs.lookup n = none
  | _, _, _, .nil, _ => by simp
  | (m, d0) :: fs, _, n, .cons h r, e => by
    cases q : n == m with
    | true =>
      simp only [List.lookup, q] at e
      cases e
    | false =>
      simp only [List.lookup, q] at e ⊢
      exact RepF.lookupN r e
theorem RepF.length : ∀ {fs : List (Str × D)} {gs : List (Str × V)}, RepF K F fs gs → fs.length = gs.length
  | _, _, .nil => rfl
  | _, _, .cons _ r => by rw [List.length_cons, List.length_cons, RepF.length r]
def putD (f : Str) (d : D) : List (Str × D) → List (Str × D)
  | [] => [(f, d)]
  | (g, e) :: r => if g = f then (g, d) :: r else (g, e) :: putD f d r
end
end DL

namespace DL
open PySem L2
variable {K : PySem.W.Frag}

def MRep (K : PySem.W.Frag) (F : Hp) (o : HO) (m : MO) : Prop := match m with
  | .lst ds => ∃ vs, o = .lst vs ∧ Reps K F ds vs
  | .dct es => ∃ kvs, o = .dK kvs ∧ RepK K F es kvs
  | .ins C fs => ∃ dx gs, o = .ins C dx gs ∧ RepF K F fs gs
theorem MRep.mono {F F' : Hp} (e : Ex F F') {o : HO} : ∀ {m : MO}, MRep K F o m → MRep K F' o m
  | .lst _, ⟨vs, h, r⟩ => ⟨vs, h, r.mono e⟩
  | .dct _, ⟨vs, h, r⟩ => ⟨vs, h, r.mono e⟩
  | .ins _ _, ⟨dx, vs, h, r⟩ => ⟨dx, vs, h, r.mono e⟩

/-- F: what stands still; M: what is owned -/
theorem MRep.noxd {F H : Hp} {a : Addr} {o : HO} {m : MO} (h : H a = some o) (r : MRep K F o m) : ∀ gs, H a ≠ some (.xd gs) := fun gs z => by
  rw [h] at z
  cases z
  cases m with
  | lst ds => obtain ⟨_, e, _⟩ := r; cases e
  | dct ds => obtain ⟨_, e, _⟩ := r; cases e
  | ins C fs => obtain ⟨_, _, e, _⟩ := r; cases e
structure Stt (K : PySem.W.Frag) (F H : Hp) (M : Mem) : Prop where
  ex : Ex F H
  mem : ∀ p ∈ M, F p.1 = none ∧ ∃ o, H p.1 = some o ∧ MRep K F o p.2
  nd : (dom M).Nodup

structure Nxt (K : PySem.W.Frag) (F H : Hp) (M : Mem) (F' H' : Hp) (M' : Mem) : Prop where
  st : Stt K F' H' M'
  ex : Ex F F'
  fr : ∀ a o, H a = some o → a ∉ dom M → H' a = some o
  nw : ∀ a, F a = none → H a ≠ none → a ∉ dom M → (∀ gs, H a ≠ some (.xd gs)) → F' a = none
  dm : ∀ a, a ∈ dom M' → a ∈ dom M ∨ H a = none
  tr : ∀ a, H a ≠ none → H' a ≠ none

theorem Nxt.refl {F H : Hp} {M : Mem} (s : Stt K F H M) : Nxt K F H M F H M :=
  ⟨s, Ex.refl F, fun _ _ h _ => h, fun _ h _ _ _ => h, fun _ h => .inl h, fun _ h => h⟩
theorem Nxt.trans {F H F1 H1 F2 H2 : Hp} {M M1 M2 : Mem} (a : Nxt K F H M F1 H1 M1) (b : Nxt K F1 H1 M1 F2 H2 M2) : Nxt K F H M F2 H2 M2 where
  st := b.st
  ex := a.ex.trans b.ex
  fr := fun x o h n => b.fr x o (a.fr x o h n) fun m => (a.dm x m).elim n fun z => by rw [h] at z; cases z
  nw := fun x h1 h2 n hx => b.nw x (a.nw x h1 h2 n hx) (a.tr x h2) (fun m => (a.dm x m).elim n fun z => h2 z) fun gs z => by
    cases e : H x with
    | none => exact h2 e
    | some o =>
      rw [a.fr x o e n] at z
      cases z
      exact hx gs e
  dm := fun x m => (b.dm x m).elim (fun m1 => a.dm x m1) fun z => by
    cases q : H x with
    | none => exact .inr rfl
    | some o => exact absurd z (a.tr x (by rw [q]; intro z; cases z))
  tr := fun x h => b.tr x (a.tr x h)

theorem Stt.out {F H : Hp} {M : Mem} (s : Stt K F H M) {p : Addr} (h : H p = none) : p ∉ dom M := fun m => by
  obtain ⟨q, hq, rfl⟩ := List.mem_map.mp m
  obtain ⟨_, o, e, _⟩ := s.mem q hq
  rw [h] at e
  cases e
theorem Stt.free {F H : Hp} {M : Mem} (s : Stt K F H M) {p : Addr} (h : H p = none) : F p = none := by
  cases q : F p with
  | none => rfl
  | some o =>
    rw [s.ex p o q] at h
    cases h
theorem ne_none_of {H : Hp} {a : Addr} {o : HO} (h : H a = some o) : H a ≠ none := by
  rw [h]
  intro z
  cases z
theorem upd_some {H : Hp} {p a : Addr} {o : HO} (h : H a ≠ none) : upd H p o a ≠ none := by
  by_cases e : a = p
  · subst e
    rw [upd_same]
    intro z
    cases z
  · rw [upd_ne e]
    exact h
theorem Ex.upd2 {F H : Hp} {p : Addr} {o : HO} (e : Ex F H) : Ex (upd F p o) (upd H p o) := fun a u h => by
  by_cases q : a = p
  · subst q
    rw [upd_same] at h ⊢
    exact h
  · rw [upd_ne q] at h ⊢
    exact e a u h
theorem Ex.updM {F H : Hp} {p : Addr} {o : HO} (e : Ex F H) (h : F p = none) : Ex F (upd H p o) := fun a u ha => by
  rw [upd_ne (ne_of_none ha h)]
  exact e a u ha

/-- a new thing that stands still -/
theorem Nxt.newF {F H : Hp} {M : Mem} (s : Stt K F H M) {p : Addr} {o : HO} (h : H p = none) : Nxt K F H M (upd F p o) (upd H p o) M where
  st := ⟨s.ex.upd2, fun q hq => by
    obtain ⟨h1, u, h2, h3⟩ := s.mem q hq
    have ne : q.1 ≠ p := ne_of_none h2 h
    exact ⟨by rw [upd_ne ne]; exact h1, u, by rw [upd_ne ne]; exact h2, h3.mono (Ex.new (s.free h))⟩, s.nd⟩
  ex := Ex.new (s.free h)
  fr := fun a u e _ => by
    rw [upd_ne (ne_of_none e h)]
    exact e
  nw := fun a h1 h2 _ _ => by
    have ne : a ≠ p := fun z => h2 (z ▸ h)
    rw [upd_ne ne]
    exact h1
  dm := fun _ m => .inl m
  tr := fun _ e => upd_some e
/-- a new thing that is owned -/
theorem Nxt.newM {F H : Hp} {M : Mem} (s : Stt K F H M) {p : Addr} {o : HO} {m : MO} (h : H p = none) (r : MRep K F o m) : Nxt K F H M F (upd H p o) ((p, m) :: M) where
  st := ⟨s.ex.updM (s.free h), fun q hq => by
    rcases List.mem_cons.mp hq with e | hq
    · subst e
      exact ⟨s.free h, o, upd_same, r⟩
    · obtain ⟨h1, u, h2, h3⟩ := s.mem q hq
      have ne : q.1 ≠ p := ne_of_none h2 h
      exact ⟨h1, u, by rw [upd_ne ne]; exact h2, h3⟩, List.nodup_cons.mpr ⟨s.out h, s.nd⟩⟩
  ex := Ex.refl F
  fr := fun a u e _ => by
    rw [upd_ne (ne_of_none e h)]
    exact e
  nw := fun a h1 _ _ _ => h1
  dm := fun a m => (List.mem_cons.mp m).elim (fun e => .inr (by rw [e]; exact h)) .inl
  tr := fun _ e => upd_some e

/-- where p stands in M -/
inductive At : Mem → Addr → MO → Prop
  | hd {p m M} : At ((p, m) :: M) p m
  | tl {p m q M} : At M p m → At (q :: M) p m
/-- M with p's content changed -/
inductive Up : Mem → Addr → MO → MO → Mem → Prop
  | hd {p m m' M} : Up ((p, m) :: M) p m m' ((p, m') :: M)
  | tl {p m m' q M M'} : Up M p m m' M' → Up (q :: M) p m m' (q :: M')
/-- M without p -/
inductive Del : Mem → Addr → MO → Mem → Prop
  | hd {p m M} : Del ((p, m) :: M) p m M
  | tl {p m q M M'} : Del M p m M' → Del (q :: M) p m (q :: M')
theorem At.mem {M : Mem} {p : Addr} {m : MO} (h : At M p m) : (p, m) ∈ M := by
  induction h with
  | hd => exact List.mem_cons_self
  | tl _ ih => exact List.mem_cons_of_mem _ ih
theorem Up.at {M M' : Mem} {p : Addr} {m m' : MO} (h : Up M p m m' M') : At M p m := by
  induction h with
  | hd => exact .hd
  | tl _ ih => exact .tl ih
theorem Up.dom {M M' : Mem} {p : Addr} {m m' : MO} (h : Up M p m m' M') : dom M' = dom M := by
  induction h with
  | hd => rfl
  | @tl p m m' q M M' _ ih =>
    show q.1 :: DL.dom M' = q.1 :: DL.dom M
    rw [ih]
theorem Up.new {M M' : Mem} {p : Addr} {m m' : MO} (h : Up M p m m' M') : ∀ q ∈ M', q = (p, m') ∨ q ∈ M := by
  induction h with
  | hd =>
    intro q hq
    rcases List.mem_cons.mp hq with e | hq
    · exact .inl e
    · exact .inr (List.mem_cons_of_mem _ hq)
  | tl _ ih =>
    intro q hq
    rcases List.mem_cons.mp hq with e | hq
    · subst e
      exact .inr List.mem_cons_self
    · exact (ih q hq).imp id fun z => List.mem_cons_of_mem _ z
theorem Up.old {M M' : Mem} {p : Addr} {m m' : MO} (h : Up M p m m' M') (nd : (DL.dom M).Nodup) : ∀ q ∈ M', q = (p, m') ∨ (q ∈ M ∧ q.1 ≠ p) := by
  induction h with
  | hd =>
    intro q hq
    rcases List.mem_cons.mp hq with e | hq
    · exact .inl e
    · exact .inr ⟨List.mem_cons_of_mem _ hq, fun z => (List.nodup_cons.mp nd).1 (List.mem_map.mpr ⟨q, hq, z⟩)⟩
  | @tl p m m' q0 M M' hu ih =>
    intro q hq
    rcases List.mem_cons.mp hq with e | hq
    · subst e
      exact .inr ⟨List.mem_cons_self, fun z => (List.nodup_cons.mp nd).1 (List.mem_map.mpr ⟨_, hu.at.mem, z.symm⟩)⟩
    · exact (ih (List.nodup_cons.mp nd).2 q hq).imp id fun z => ⟨List.mem_cons_of_mem _ z.1, z.2⟩
theorem Del.at {M M' : Mem} {p : Addr} {m : MO} (h : Del M p m M') : At M p m := by
  induction h with
  | hd => exact .hd
  | tl _ ih => exact .tl ih
theorem Del.sub {M M' : Mem} {p : Addr} {m : MO} (h : Del M p m M') : List.Sublist M' M := by
  induction h with
  | hd => exact List.sublist_cons_self _ _
  | tl _ ih => exact ih.cons_cons _
theorem Del.out {M M' : Mem} {p : Addr} {m : MO} (h : Del M p m M') (nd : (DL.dom M).Nodup) : p ∉ DL.dom M' := by
  induction h with
  | hd => exact (List.nodup_cons.mp nd).1
  | @tl p m q M M' hd ih =>
    intro z
    rcases List.mem_cons.mp z with e | z
    · exact (List.nodup_cons.mp nd).1 (List.mem_map.mpr ⟨_, hd.at.mem, e⟩)
    · exact ih (List.nodup_cons.mp nd).2 z

theorem Stt.at {F H : Hp} {M : Mem} (s : Stt K F H M) {p : Addr} {m : MO} (h : At M p m) : F p = none ∧ ∃ o, H p = some o ∧ MRep K F o m := s.mem _ h.mem
/-- what is owned is written -/
theorem Nxt.put {F H : Hp} {M M' : Mem} (s : Stt K F H M) {p : Addr} {o : HO} {m m' : MO} (h : Up M p m m' M') (r : MRep K F o m') : Nxt K F H M F (upd H p o) M' where
  st := ⟨s.ex.updM (s.at h.at).1, fun q hq => by
    rcases h.old s.nd q hq with e | ⟨hq, ne⟩
    · subst e
      exact ⟨(s.at h.at).1, o, upd_same, r⟩
    · obtain ⟨h1, u, h2, h3⟩ := s.mem q hq
      exact ⟨h1, u, by rw [upd_ne ne]; exact h2, h3⟩, by rw [h.dom]; exact s.nd⟩
  ex := Ex.refl F
  fr := fun a u e n => by
    rw [upd_ne fun z => n (by rw [z]; exact List.mem_map.mpr ⟨_, h.at.mem, rfl⟩)]
    exact e
  nw := fun a h1 _ _ _ => h1
  dm := fun a m => .inl (by rw [← h.dom]; exact m)
  tr := fun _ e => upd_some e
/-- what is owned stands still from now on -/
theorem Nxt.frz {F H : Hp} {M M' : Mem} (s : Stt K F H M) {p : Addr} {o : HO} {m : MO} (h : Del M p m M') (ho : H p = some o) : Nxt K F H M (upd F p o) H M' where
  st := ⟨fun a u e => by
    by_cases q : a = p
    · subst q
      rw [upd_same] at e
      rw [ho]
      exact e
    · rw [upd_ne q] at e
      exact s.ex a u e, fun q hq => by
    obtain ⟨h1, u, h2, h3⟩ := s.mem q (h.sub.subset hq)
    have ne : q.1 ≠ p := fun z => h.out s.nd (by rw [← z]; exact List.mem_map.mpr ⟨q, hq, rfl⟩)
    exact ⟨by rw [upd_ne ne]; exact h1, u, h2, h3.mono (Ex.new (s.at h.at).1)⟩, s.nd.sublist (h.sub.map _)⟩
  ex := Ex.new (s.at h.at).1
  fr := fun _ _ e _ => e
  nw := fun a h1 _ n _ => by
    rw [upd_ne fun z => n (by rw [z]; exact List.mem_map.mpr ⟨_, h.at.mem, rfl⟩)]
    exact h1
  dm := fun a m => .inl ((h.sub.map (·.1)).subset m)
  tr := fun _ e => e
theorem frz_lst {F H : Hp} {M M' : Mem} (s : Stt K F H M) {p : Addr} {ds : List D} (h : Del M p (.lst ds) M') : ∃ F', Nxt K F H M F' H M' ∧ Rep K F' (.lst ds) (.ref p) := by
  obtain ⟨h1, o, h2, vs, rfl, r⟩ := s.at h.at
  have n := Nxt.frz s h h2
  exact ⟨_, n, .lst upd_same (r.mono n.ex)⟩
theorem frz_dct {F H : Hp} {M M' : Mem} (s : Stt K F H M) {p : Addr} {ds : List (Key × D)} (h : Del M p (.dct ds) M') : ∃ F', Nxt K F H M F' H M' ∧ Rep K F' (.dct ds) (.ref p) := by
  obtain ⟨h1, o, h2, vs, rfl, r⟩ := s.at h.at
  have n := Nxt.frz s h h2
  exact ⟨_, n, .dct upd_same (r.mono n.ex)⟩
theorem frz_ins {F H : Hp} {M M' : Mem} (s : Stt K F H M) {p C : Addr} {fs : List (Str × D)} (h : Del M p (.ins C fs) M') : ∃ F', Nxt K F H M F' H M' ∧ Rep K F' (.ins C fs) (.ref p) := by
  obtain ⟨h1, o, h2, dx, gs, rfl, r⟩ := s.at h.at
  have n := Nxt.frz s h h2
  exact ⟨_, n, .ins upd_same (r.mono n.ex)⟩

/-- a part of what is owned is handed on -/
theorem Stt.part {F H : Hp} {Mr Mc : Mem} (s : Stt K F H (Mr ++ Mc)) : Stt K F H Mc :=
  ⟨s.ex, fun p hp => s.mem p (List.mem_append_right _ hp), s.nd.sublist ((List.sublist_append_right Mr Mc).map _)⟩
theorem Nxt.whole {F H F' H' : Hp} {Mr Mc Mc' : Mem} (s : Stt K F H (Mr ++ Mc)) (n : Nxt K F H Mc F' H' Mc') : Nxt K F H (Mr ++ Mc) F' H' (Mr ++ Mc') := by
  have nd : (dom Mr ++ dom Mc).Nodup := by
    have := s.nd
    unfold dom at this
    rw [List.map_append] at this
    exact this
  obtain ⟨nd1, nd2, nd3⟩ := List.nodup_append.mp nd
  have out : ∀ p ∈ Mr, p.1 ∉ dom Mc := fun p hp z => nd3 p.1 (List.mem_map.mpr ⟨p, hp, rfl⟩) p.1 z rfl
  refine ⟨⟨n.st.ex, fun p hp => ?_, ?_⟩, n.ex, fun a o h na => n.fr a o h fun z => na ?_, fun a h1 h2 na hx => n.nw a h1 h2 (fun z => na ?_) hx, fun a m => ?_, n.tr⟩
  · rcases List.mem_append.mp hp with hp | hp
    · obtain ⟨h1, o, h2, h3⟩ := s.mem p (List.mem_append_left _ hp)
      exact ⟨n.nw _ h1 (ne_none_of h2) (out p hp) (MRep.noxd h2 h3), o, n.fr _ _ h2 (out p hp), h3.mono n.ex⟩
    · exact n.st.mem p hp
  · unfold dom
    rw [List.map_append]
    refine List.nodup_append.mpr ⟨nd1, n.st.nd, fun a ha b hb e => ?_⟩
    subst e
    rcases n.dm a hb with z | z
    · exact nd3 a ha a z rfl
    · obtain ⟨p, hp, rfl⟩ := List.mem_map.mp ha
      obtain ⟨_, o, h2, _⟩ := s.mem p (List.mem_append_left _ hp)
      rw [z] at h2
      cases h2
  · unfold dom
    rw [List.map_append]
    exact List.mem_append_right _ z
  · unfold dom
    rw [List.map_append]
    exact List.mem_append_right _ z
  · unfold dom at m
    rw [List.map_append] at m
    rcases List.mem_append.mp m with m | m
    · refine .inl ?_
      unfold dom
      rw [List.map_append]
      exact List.mem_append_left _ m
    · refine (n.dm a m).imp (fun z => ?_) id
      unfold dom
      rw [List.map_append]
      exact List.mem_append_right _ z

/-! ### slots -/
def EnvR (K : PySem.W.Frag) (F : Hp) (ds : DS) (σ : St) : Prop := ds.length = σ.length ∧ ∀ (i : Nat) (d : D), ds[i]? = some (some d) → ∃ v, σ[i]? = some (some v) ∧ Rep K F d v
theorem EnvR.mono {F F' : Hp} {ds : DS} {σ : St} (e : Ex F F') (h : EnvR K F ds σ) : EnvR K F' ds σ := ⟨h.1, fun i d q => by
  obtain ⟨v, h1, h2⟩ := h.2 i d q
  exact ⟨v, h1, h2.mono e⟩⟩
theorem EnvR.set {F : Hp} {ds : DS} {σ : St} {d : D} {v : V} (i : Nat) (h : EnvR K F ds σ) (r : Rep K F d v) : EnvR K F (ds.set i (some d)) (σ.set i (some v)) := by
  refine ⟨by rw [List.length_set, List.length_set]; exact h.1, fun j e q => ?_⟩
  by_cases z : i = j
  · subst z
    have hl : i < ds.length := by
      have := (List.getElem?_eq_some_iff.mp q).1
      rw [List.length_set] at this
      exact this
    rw [List.getElem?_set_self hl] at q
    cases q
    exact ⟨v, List.getElem?_set_self (by rw [← h.1]; exact hl), r⟩
  · rw [List.getElem?_set_ne z] at q ⊢
    exact h.2 j e q
theorem EnvR.setN {F : Hp} {ds : DS} {σ : St} {v : Option V} (i : Nat) (h : EnvR K F ds σ) : EnvR K F (ds.set i none) (σ.set i v) := by
  refine ⟨by rw [List.length_set, List.length_set]; exact h.1, fun j e q => ?_⟩
  by_cases z : i = j
  · subst z
    have hl : i < ds.length := by
      have := (List.getElem?_eq_some_iff.mp q).1
      rw [List.length_set] at this
      exact this
    rw [List.getElem?_set_self hl] at q
    cases q
  · rw [List.getElem?_set_ne z] at q ⊢
    exact h.2 j e q
def dwipe (ds : DS) : List Nat → DS
  | [] => ds
  | v :: vs => (dwipe ds vs).set v none
theorem EnvR.wipe {F : Hp} {ds : DS} {σ : St} (h : EnvR K F ds σ) : ∀ vs : List Nat, EnvR K F (dwipe ds vs) (L2.wipe σ vs)
  | [] => h
  | v :: vs => (EnvR.wipe h vs).setN v
def dstart (N : List Str) (ds : List D) : DS := ds.map some ++ List.replicate (N.length - ds.length) none
theorem EnvR.begun {F : Hp} {N : List Str} {ds : List D} {vs : List V} (r : Reps K F ds vs) : EnvR K F (dstart N ds) (start N vs) := by
  have hl := r.length
  refine ⟨?_, fun i d q => ?_⟩
  · unfold dstart L2.start
    rw [List.length_append, List.length_append, List.length_map, List.length_map, List.length_replicate, List.length_replicate, hl]
  · unfold dstart at q
    unfold L2.start
    by_cases hi : i < ds.length
    · rw [List.getElem?_append_left (by rw [List.length_map]; exact hi), List.getElem?_map] at q
      rw [List.getElem?_append_left (by rw [List.length_map, ← hl]; exact hi), List.getElem?_map]
      cases e : ds[i]? with
      | none =>
        rw [e] at q
        cases q
      | some d0 =>
        rw [e] at q
        cases q
        obtain ⟨v, h1, h2⟩ := r.get e
        exact ⟨v, by rw [h1]; rfl, h2⟩
    · rw [List.getElem?_append_right (by rw [List.length_map]; omega), List.getElem?_replicate] at q
      split at q <;> cases q
end DL

namespace DL
open PySem L2 PyProof.Rows

structure Cfg where
  K : PySem.W.Frag
  E : L2.St → XK
  x : DS → Value → List (Str × D) → Mem → Prop

/-- the fields of an exception -/
def ExD (K : PySem.W.Frag) (F H : Hp) (d : Option Addr) (fs : List (Str × D)) : Prop := match d with
  | none => fs = []
  | some p => ∃ gs, H p = some (.xd gs) ∧ RepF K F fs gs

def Cov (C : Cfg) (F H : Hp) (M : Mem) : Prop := ∀ ds σ cls fs M' F' H' d, Nxt C.K F H M F' H' M' → EnvR C.K F' ds σ → C.x ds cls fs M' → ExD C.K F' H' d fs → C.E σ cls d H'
theorem Cov.next {C : Cfg} {F H F' H' : Hp} {M M' : Mem} (c : Cov C F H M) (n : Nxt C.K F H M F' H' M') : Cov C F' H' M' :=
  fun ds σ cls fs M2 F2 H2 d n2 => c ds σ cls fs M2 F2 H2 d (n.trans n2)

def Go (K : PySem.W.Frag) (F H : Hp) (M : Mem) (k : D → Mem → Prop) (Q : VK) : Prop := ∀ d M' v F' H', Nxt K F H M F' H' M' → Rep K F' d v → k d M' → Q v H'
def GoT (K : PySem.W.Frag) (F H : Hp) (M : Mem) (k : Bool → Mem → Prop) (Q : Bool → Hp → Prop) : Prop := ∀ d M' F' H', Nxt K F H M F' H' M' → k d M' → Q d H'
def GoA (K : PySem.W.Frag) (F H : Hp) (M : Mem) (k : List D → Mem → Prop) (Q : List V → Hp → Prop) : Prop := ∀ d M' v F' H', Nxt K F H M F' H' M' → Reps K F' d v → k d M' → Q v H'
def GoS (K : PySem.W.Frag) (F H : Hp) (M : Mem) (k : DS → Mem → Prop) (Q : L2.St → Hp → Prop) : Prop := ∀ d M' v F' H', Nxt K F H M F' H' M' → EnvR K F' d v → k d M' → Q v H'
section
variable {K : PySem.W.Frag} {F H F' H' : Hp} {M M' : Mem}
theorem Go.next {k : D → Mem → Prop} {Q : VK} (g : Go K F H M k Q) (n : Nxt K F H M F' H' M') : Go K F' H' M' k Q := fun d M2 v F2 H2 n2 => g d M2 v F2 H2 (n.trans n2)
theorem GoT.next {k : Bool → Mem → Prop} {Q} (g : GoT K F H M k Q) (n : Nxt K F H M F' H' M') : GoT K F' H' M' k Q := fun d M2 F2 H2 n2 => g d M2 F2 H2 (n.trans n2)
theorem GoA.next {k : List D → Mem → Prop} {Q} (g : GoA K F H M k Q) (n : Nxt K F H M F' H' M') : GoA K F' H' M' k Q := fun d M2 v F2 H2 n2 => g d M2 v F2 H2 (n.trans n2)
theorem GoS.next {k : DS → Mem → Prop} {Q} (g : GoS K F H M k Q) (n : Nxt K F H M F' H' M') : GoS K F' H' M' k Q := fun d M2 v F2 H2 n2 => g d M2 v F2 H2 (n.trans n2)
theorem Go.now {k : D → Mem → Prop} {Q : VK} {d : D} {v : V} (g : Go K F H M k Q) (s : Stt K F H M) (r : Rep K F d v) (h : k d M) : Q v H := g d M v F H (Nxt.refl s) r h
end

def XE (C : Cfg) (te : TE) (ds : DS) (M : Mem) (k : D → Mem → Prop) : Prop :=
  ∀ F H σ, Stt C.K F H M → EnvR C.K F ds σ → Cov C F H M → ∀ Q : VK, Go C.K F H M k Q → te σ H Q
def XT (C : Cfg) (tt : TT) (ds : DS) (M : Mem) (k : Bool → Mem → Prop) : Prop :=
  ∀ F H σ, Stt C.K F H M → EnvR C.K F ds σ → Cov C F H M → ∀ Q : Bool → Hp → Prop, GoT C.K F H M k Q → tt σ H Q
def XA (C : Cfg) (ta : TA) (ds : DS) (M : Mem) (k : List D → Mem → Prop) : Prop :=
  ∀ F H σ, Stt C.K F H M → EnvR C.K F ds σ → Cov C F H M → ∀ Q : List V → Hp → Prop, GoA C.K F H M k Q → ta σ H Q
def XR (K : PySem.W.Frag) (r : R2) (x y : D) (M : Mem) (k : D → Mem → Prop) : Prop :=
  ∀ F H vx vy, Stt K F H M → Rep K F x vx → Rep K F y vy → ∀ Q : VK, Go K F H M k Q → r vx vy H Q
def XU (K : PySem.W.Frag) (r : V → Hp → VK → Prop) (x : D) (M : Mem) (k : D → Mem → Prop) : Prop :=
  ∀ F H vx, Stt K F H M → Rep K F x vx → ∀ Q : VK, Go K F H M k Q → r vx H Q
/-- a call on values -/
def XC (K : PySem.W.Frag) (r : List V → Hp → VK → Prop) (xs : List D) (M : Mem) (k : D → Mem → Prop) : Prop :=
  ∀ F H vs, Stt K F H M → Reps K F xs vs → ∀ Q : VK, Go K F H M k Q → r vs H Q
/-- a method on values -/
def XM (K : PySem.W.Frag) (r : V → List V → Hp → VK → Prop) (x : D) (xs : List D) (M : Mem) (k : D → Mem → Prop) : Prop :=
  ∀ F H v vs, Stt K F H M → Rep K F x v → Reps K F xs vs → ∀ Q : VK, Go K F H M k Q → r v vs H Q

structure Post where
  nx : DS → Mem → Prop
  rt : D → Mem → Prop
  bk : DS → Mem → Prop := fun _ _ => False
  ct : DS → Mem → Prop := fun _ _ => False
structure Fit (K : PySem.W.Frag) (F H : Hp) (M : Mem) (P : Post) (D : Ends) : Prop where
  nx : GoS K F H M P.nx D.nx
  rt : Go K F H M P.rt D.rt
  bk : GoS K F H M P.bk D.bk
  ct : GoS K F H M P.ct D.ct
theorem Fit.next {K : PySem.W.Frag} {F H F' H' : Hp} {M M' : Mem} {P : Post} {D : Ends} (f : Fit K F H M P D) (n : Nxt K F H M F' H' M') : Fit K F' H' M' P D :=
  ⟨f.nx.next n, f.rt.next n, f.bk.next n, f.ct.next n⟩
def XS (C : Cfg) (ts : TS) (ds : DS) (M : Mem) (P : Post) : Prop :=
  ∀ F H σ, Stt C.K F H M → EnvR C.K F ds σ → Cov C F H M → ∀ D : Ends, Fit C.K F H M P D → ts D σ H

section
variable {C : Cfg} {ds : DS} {M : Mem} {k : D → Mem → Prop} {te ta tb tc : TE} {r r' : R2}
/-! ### expressions -/
theorem XE.var {i : Nat} {d : D} (h : ds[i]? = some (some d)) (q : k d M) : XE C (tVar i) ds M k := fun F H σ s e _ Q g => by
  obtain ⟨v, h1, h2⟩ := e.2 i d h
  exact ⟨v, h1, g.now s h2 q⟩
theorem XE.c {v : V} {d : D} (h : ∀ F, Rep C.K F d v) (q : k d M) : XE C (tC v) ds M k := fun F H σ s e _ Q g => g.now s (h F) q
theorem XE.int {i : Int} (q : k (.int i) M) : XE C (tC (.int i)) ds M k := XE.c (fun _ => .int i) q
theorem XE.bl {i : Bool} (q : k (.bl i) M) : XE C (tC (.bl i)) ds M k := XE.c (fun _ => .bl i) q
theorem XE.non (q : k .non M) : XE C (tC .non) ds M k := XE.c (fun _ => .non) q
theorem XE.str {i : Str} (q : k (.str i) M) : XE C (tC (.str i)) ds M k := XE.c (fun _ => .str i) q
theorem XE.ty {i : String} (q : k (.ty i) M) : XE C (tC (.ty i)) ds M k := XE.c (fun _ => .ty i) q
theorem XE.op (h : XE C ta ds M fun x M1 => XE C tb ds M1 fun y M2 => XR C.K r x y M2 k) : XE C (tOp r ta tb) ds M k := fun F H σ s e c Q g =>
  h F H σ s e c _ fun x M1 v F1 H1 n1 r1 h1 => h1 F1 H1 σ n1.st (e.mono n1.ex) (c.next n1) _ fun y M2 u F2 H2 n2 r2 h2 =>
    h2 F2 H2 v u n2.st (r1.mono n2.ex) r2 Q ((g.next n1).next n2)
theorem XE.un {r : V → Hp → VK → Prop} (h : XE C ta ds M fun x M1 => XU C.K r x M1 k) : XE C (tUn r ta) ds M k := fun F H σ s e c Q g =>
  h F H σ s e c _ fun x M1 v F1 H1 n1 r1 h1 => h1 F1 H1 v n1.st r1 Q (g.next n1)
theorem XE.ite {t : TT} (h : XT C t ds M fun b M1 => (b = true → XE C ta ds M1 k) ∧ (b = false → XE C tb ds M1 k)) : XE C (tIf t ta tb) ds M k := fun F H σ s e c Q g =>
  h F H σ s e c _ fun b M1 F1 H1 n1 h1 => by
    cases b with
    | true => exact h1.1 rfl F1 H1 σ n1.st (e.mono n1.ex) (c.next n1) Q (g.next n1)
    | false => exact h1.2 rfl F1 H1 σ n1.st (e.mono n1.ex) (c.next n1) Q (g.next n1)
theorem XE.andV (h : XE C ta ds M fun x M1 => ∃ b, x = .bl b ∧ (b = true → XE C tb ds M1 k) ∧ (b = false → k (.bl false) M1)) : XE C (tAndV ta tb) ds M k := fun F H σ s e c Q g =>
  h F H σ s e c _ fun x M1 v F1 H1 n1 r1 h1 => by
    obtain ⟨b, rfl, h2, h3⟩ := h1
    cases r1
    refine ⟨b, rfl, ?_⟩
    cases b with
    | true => exact h2 rfl F1 H1 σ n1.st (e.mono n1.ex) (c.next n1) Q (g.next n1)
    | false => exact (g.next n1).now n1.st (.bl false) (h3 rfl)
theorem XE.orV (h : XE C ta ds M fun x M1 => ∃ b, x = .bl b ∧ (b = true → k (.bl true) M1) ∧ (b = false → XE C tb ds M1 k)) : XE C (tOrV ta tb) ds M k := fun F H σ s e c Q g =>
  h F H σ s e c _ fun x M1 v F1 H1 n1 r1 h1 => by
    obtain ⟨b, rfl, h2, h3⟩ := h1
    cases r1
    refine ⟨b, rfl, ?_⟩
    cases b with
    | true => exact (g.next n1).now n1.st (.bl true) (h2 rfl)
    | false => exact h3 rfl F1 H1 σ n1.st (e.mono n1.ex) (c.next n1) Q (g.next n1)
theorem XE.notV (h : XE C ta ds M fun x M1 => ∃ b, x = .bl b ∧ k (.bl (!b)) M1) : XE C (tNotV ta) ds M k := fun F H σ s e c Q g =>
  h F H σ s e c _ fun x M1 v F1 H1 n1 r1 h1 => by
    obtain ⟨b, rfl, h2⟩ := h1
    cases r1
    exact ⟨b, rfl, (g.next n1).now n1.st (.bl _) h2⟩
theorem XE.chain (h : XE C ta ds M fun x M1 => XE C tb ds M1 fun y M2 => XR C.K r x y M2 fun z M3 => ∃ b, z = .bl b ∧ (b = true → XE C tc ds M3 fun w M4 => XR C.K r' y w M4 k) ∧ (b = false → k (.bl false) M3)) :
    XE C (tChain r r' ta tb tc) ds M k := fun F H σ s e c Q g =>
  h F H σ s e c _ fun x M1 v F1 H1 n1 r1 h1 => h1 F1 H1 σ n1.st (e.mono n1.ex) (c.next n1) _ fun y M2 u F2 H2 n2 r2 h2 =>
    h2 F2 H2 v u n2.st (r1.mono n2.ex) r2 _ fun z M3 w F3 H3 n3 r3 h3 => by
      obtain ⟨b, rfl, h4, h5⟩ := h3
      cases r3
      refine ⟨b, rfl, ?_⟩
      have n := (n1.trans n2).trans n3
      cases b with
      | true =>
        show tc σ H3 _
        exact h4 rfl F3 H3 σ n3.st (e.mono n.ex) (c.next n) _ fun w M4 x4 F4 H4 n4 r4 h4 => h4 F4 H4 u x4 n4.st (r2.mono (n3.ex.trans n4.ex)) r4 Q ((g.next n).next n4)
      | false => exact (g.next n).now n3.st (.bl false) (h5 rfl)

/-! ### tests -/
variable {kt : Bool → Mem → Prop} {t u : TT}
theorem XT.tst (h : XE C te ds M fun x M1 => ∃ b, x = .bl b ∧ kt b M1) : XT C (tTest te) ds M kt := fun F H σ s e c Q g =>
  h F H σ s e c _ fun x M1 v F1 H1 n1 r1 h1 => by
    obtain ⟨b, rfl, h2⟩ := h1
    cases r1
    exact ⟨b, rfl, g b M1 F1 H1 n1 h2⟩
theorem XT.bool (h : XE C te ds M fun x M1 => ∃ b, x = .bl b ∧ kt b M1) : XT C (tB te) ds M kt := XT.tst h
theorem XT.and (h : XT C t ds M fun b M1 => (b = true → XT C u ds M1 kt) ∧ (b = false → kt false M1)) : XT C (tAnd t u) ds M kt := fun F H σ s e c Q g =>
  h F H σ s e c _ fun b M1 F1 H1 n1 h1 => by
    cases b with
    | true => exact h1.1 rfl F1 H1 σ n1.st (e.mono n1.ex) (c.next n1) Q (g.next n1)
    | false => exact g false M1 F1 H1 n1 (h1.2 rfl)
theorem XT.or (h : XT C t ds M fun b M1 => (b = true → kt true M1) ∧ (b = false → XT C u ds M1 kt)) : XT C (tOr t u) ds M kt := fun F H σ s e c Q g =>
  h F H σ s e c _ fun b M1 F1 H1 n1 h1 => by
    cases b with
    | true => exact g true M1 F1 H1 n1 (h1.1 rfl)
    | false => exact h1.2 rfl F1 H1 σ n1.st (e.mono n1.ex) (c.next n1) Q (g.next n1)
theorem XT.not (h : XT C t ds M fun b M1 => kt (!b) M1) : XT C (tNot t) ds M kt := fun F H σ s e c Q g =>
  h F H σ s e c _ fun b M1 F1 H1 n1 h1 => g (!b) M1 F1 H1 n1 h1

/-! ### arguments, displays -/
variable {ka : List D → Mem → Prop} {tr : TA}
theorem XA.nil (h : ka [] M) : XA C tNil ds M ka := fun F H σ s e c Q g => g [] M [] F H (Nxt.refl s) .nil h
theorem XA.cons (h : XE C te ds M fun x M1 => XA C tr ds M1 fun xs M2 => ka (x :: xs) M2) : XA C (tCons te tr) ds M ka := fun F H σ s e c Q g =>
  h F H σ s e c _ fun x M1 v F1 H1 n1 r1 h1 => h1 F1 H1 σ n1.st (e.mono n1.ex) (c.next n1) _ fun xs M2 vs F2 H2 n2 r2 h2 => g _ M2 _ F2 H2 (n1.trans n2) (.cons (r1.mono n2.ex) r2) h2
theorem sz {n : Nat} (h : n ≤ 16000000) : n ≤ sizeLine := by rw [sizeLine_eq]; omega
theorem sz1 {n : Nat} (h : n < 16000000) : n < sizeLine := by rw [sizeLine_eq]; omega
theorem XE.tup (h : XA C tr ds M fun xs M1 => xs.length ≤ 16000000 ∧ k (.tup xs) M1) : XE C (tTup tr) ds M k := fun F H σ s e c Q g =>
  h F H σ s e c _ fun xs M1 vs F1 H1 n1 r1 h1 => ⟨by rw [← r1.length]; exact sz h1.1, fun p hp => by
    have n2 := Nxt.newF n1.st (o := .tup vs) hp
    exact g _ _ _ _ _ (n1.trans n2) (.tup (.inl (.inl upd_same)) (r1.mono n2.ex)) h1.2⟩
/-- a list display that stands still -/
theorem XE.lstF (h : XA C tr ds M fun xs M1 => xs.length ≤ 16000000 ∧ k (.lst xs) M1) : XE C (tLst tr) ds M k := fun F H σ s e c Q g =>
  h F H σ s e c _ fun xs M1 vs F1 H1 n1 r1 h1 => ⟨by rw [← r1.length]; exact sz h1.1, fun p hp => by
    have n2 := Nxt.newF n1.st (o := .lst vs) hp
    exact g _ _ _ _ _ (n1.trans n2) (.lst upd_same (r1.mono n2.ex)) h1.2⟩
/-- .. that is owned -/
theorem XE.lstM (h : XA C tr ds M fun xs M1 => xs.length ≤ 16000000 ∧ ∀ p, p ∉ dom M1 → k (.raw p) ((p, .lst xs) :: M1)) : XE C (tLst tr) ds M k := fun F H σ s e c Q g =>
  h F H σ s e c _ fun xs M1 vs F1 H1 n1 r1 h1 => ⟨by rw [← r1.length]; exact sz h1.1, fun p hp => by
    have n2 := Nxt.newM n1.st (o := .lst vs) (m := .lst xs) hp ⟨vs, rfl, r1⟩
    exact g _ _ _ _ _ (n1.trans n2) (.raw p) (h1.2 p (n1.st.out hp))⟩

/-! ### operators -/
variable {K : PySem.W.Frag} {x y : D}
theorem XR.orL (h : XR K r x y M k) : XR K (fun x y H Q => r x y H Q ∨ r' x y H Q) x y M k := fun F H v u s r1 r2 Q g => .inl (h F H v u s r1 r2 Q g)
theorem XR.orR (h : XR K r' x y M k) : XR K (fun x y H Q => r x y H Q ∨ r' x y H Q) x y M k := fun F H v u s r1 r2 Q g => .inr (h F H v u s r1 r2 Q g)
theorem XR.i0 {f : Int → Int → Int} {i j : Int} (h : k (.int (f i j)) M) : XR K (rI0 fun i j => .int (f i j)) (.int i) (.int j) M k := fun F H v u s r1 r2 Q g => by
  cases r1
  cases r2
  exact ⟨i, j, rfl, rfl, g.now s (.int _) h⟩
theorem XR.b0 {f : Int → Int → Bool} {i j : Int} (h : k (.bl (f i j)) M) : XR K (rI0 fun i j => .bl (f i j)) (.int i) (.int j) M k := fun F H v u s r1 r2 Q g => by
  cases r1
  cases r2
  exact ⟨i, j, rfl, rfl, g.now s (.bl _) h⟩
theorem XR.i {f : Int → Int → Int} {Cd : Int → Int → Prop} {i j : Int} (hc : Cd i j) (h : k (.int (f i j)) M) : XR K (rI Cd fun i j => .int (f i j)) (.int i) (.int j) M k := fun F H v u s r1 r2 Q g => by
  cases r1
  cases r2
  exact ⟨i, j, rfl, rfl, hc, g.now s (.int _) h⟩
theorem XU.neg {i : Int} (h : k (.int (-i)) M) : XU K (rU fun i => .int (-i)) (.int i) M k := fun F H v s r1 Q g => by
  cases r1
  exact ⟨i, rfl, g.now s (.int _) h⟩
/-- // by any divisor but 0, below 2 ^ 9000 -/
def CDivZ (_ j : Int) : Prop := j ≠ 0 ∧ j.natAbs.log2 < 9000
theorem op_fdivZ {X : Cx} : OpR X (binaryOp .FloorDiv) (rI CDivZ fun i j => .int (i.fdiv j)) := opI fun i j _ _ _ _ _ hc q =>
  floordiv_int hc.1 q (.inl (PyProof.noPylong_of_log2 hc.2))
/-- texts -/
def rAddS : R2 := fun x y H Q => ∃ i j, x = .str i ∧ y = .str j ∧ i.length + j.length ≤ sizeLine ∧ Q (.str (i ++ j)) H
def rAddU (K : PySem.W.Frag) : R2 := fun x y H Q => rI0 (fun i j => .int (i + j)) x y H Q ∨ rAddS x y H Q ∨ rCatA K x y H Q ∨ rCat x y H Q
theorem op_addU {X : Cx} : OpR X (binaryOp .Add) (rAddU X.K) := OpR.or op_add (OpR.or op_add_str (OpR.or op_catA op_cat))
theorem XR.add_int {i j : Int} (h : k (.int (i + j)) M) : XR K (rAddU K) (.int i) (.int j) M k := XR.orL (XR.i0 h)
theorem XR.add_str {i j : Str} (hl : i.length + j.length ≤ 16000000) (h : k (.str (i ++ j)) M) : XR K (rAddU K) (.str i) (.str j) M k := fun F H v u s r1 r2 Q g => .inr (.inl (by
  cases r1
  cases r2
  exact ⟨i, j, rfl, rfl, sz hl, g.now s (.str _) h⟩))
theorem XR.add_tup {xs ys : List D} (hl : xs.length + ys.length ≤ 16000000) (h : k (.tup (xs ++ ys)) M) : XR K (rAddU K) (.tup xs) (.tup ys) M k := fun F H v u s r1 r2 Q g => .inr (.inr (.inl (by
  cases r1 with
  | @tup a vs _ h1 q1 =>
    cases r2 with
    | @tup b us _ h2 q2 =>
      refine ⟨a, b, vs, us, rfl, rfl, ex_t s.ex h1, ex_t s.ex h2, by rw [← q1.length, ← q2.length]; exact sz hl, fun e => ?_, fun _ e => ?_, fun _ _ p hp => ?_⟩
      · subst e
        have e : xs = [] := List.length_eq_zero_iff.mp (by rw [q1.length]; rfl)
        subst e
        exact g.now s (.tup h2 q2) h
      · subst e
        have e : ys = [] := List.length_eq_zero_iff.mp (by rw [q2.length]; rfl)
        subst e
        rw [List.append_nil] at h
        exact g.now s (.tup h1 q1) h
      · have n := Nxt.newF s (o := .tup (vs ++ us)) hp
        exact g _ _ _ _ _ n (.tup (.inl (.inl upd_same)) ((q1.append q2).mono n.ex)) h)))
/-- how a list stands: still, or owned -/
inductive LsAt (M : Mem) : D → List D → Prop
  | lst {xs} : LsAt M (.lst xs) xs
  | raw {p xs} : At M p (.lst xs) → LsAt M (.raw p) xs
theorem LsAt.get {F H : Hp} {x : D} {xs : List D} {v : V} (h : LsAt M x xs) (s : Stt K F H M) (r : Rep K F x v) : ∃ p vs, v = .ref p ∧ H p = some (.lst vs) ∧ Reps K F xs vs := by
  cases h with
  | lst =>
    cases r with
    | lst h q => exact ⟨_, _, rfl, s.ex _ _ h, q⟩
  | raw ha =>
    cases r
    obtain ⟨_, o, h1, vs, rfl, q⟩ := s.at ha
    exact ⟨_, _, rfl, h1, q⟩
theorem XR.add_lst {xs ys : List D} {x y : D} (hx : LsAt M x xs) (hy : LsAt M y ys) (hl : xs.length + ys.length ≤ 16000000) (h : k (.lst (xs ++ ys)) M) : XR K (rAddU K) x y M k := fun F H v u s r1 r2 Q g => .inr (.inr (.inr (by
  obtain ⟨a, vs, rfl, h1, q1⟩ := hx.get s r1
  obtain ⟨b, us, rfl, h2, q2⟩ := hy.get s r2
  refine ⟨a, b, vs, us, rfl, rfl, h1, h2, by rw [← q1.length, ← q2.length]; exact sz hl, fun p hp => ?_⟩
  have n := Nxt.newF s (o := .lst (vs ++ us)) hp
  exact g _ _ _ _ _ n (.lst upd_same ((q1.append q2).mono n.ex)) h)))
theorem XR.add_lstM {xs ys : List D} {x y : D} (hx : LsAt M x xs) (hy : LsAt M y ys) (hl : xs.length + ys.length ≤ 16000000) (h : ∀ p, p ∉ dom M → k (.raw p) ((p, .lst (xs ++ ys)) :: M)) : XR K (rAddU K) x y M k := fun F H v u s r1 r2 Q g => .inr (.inr (.inr (by
  obtain ⟨a, vs, rfl, h1, q1⟩ := hx.get s r1
  obtain ⟨b, us, rfl, h2, q2⟩ := hy.get s r2
  refine ⟨a, b, vs, us, rfl, rfl, h1, h2, by rw [← q1.length, ← q2.length]; exact sz hl, fun p hp => ?_⟩
  have n := Nxt.newM s (o := .lst (vs ++ us)) (m := .lst (xs ++ ys)) hp ⟨_, rfl, q1.append q2⟩
  exact g _ _ _ _ _ n (.raw p) (h p (s.out hp)))))
end
end DL

namespace DL
open PySem L2 PyProof.Rows

/-! ### sequences by place -/
section
variable {K : PySem.W.Frag} {F H : Hp} {M : Mem} {k : D → Mem → Prop}
theorem Reps.atI {ds : List D} {vs : List V} {i : Int} {d : D} (r : Reps K F ds vs) (h : L2.atI ds i = some d) : ∃ v, L2.atI vs i = some v ∧ Rep K F d v := by
  unfold L2.atI at h ⊢
  rw [← r.length]
  cases e : L2.ixN ds.length i with
  | none =>
    rw [e] at h
    cases h
  | some j =>
    rw [e] at h
    exact r.get h
theorem XR.ix_tup {xs : List D} {i : Int} {d : D} (h : L2.atI xs i = some d) (q : k d M) : XR K (rIx K) (.tup xs) (.int i) M k := fun F H v u s r1 r2 Q g => by
  cases r2
  cases r1 with
  | @tup a vs _ h1 q1 =>
    obtain ⟨w, hw, rw'⟩ := q1.atI h
    exact .inr (.inl ⟨a, vs, i, w, rfl, rfl, ex_t s.ex h1, hw, g.now s rw' q⟩)
theorem XR.ix_lst {x : D} {xs : List D} {i : Int} {d : D} (hx : LsAt M x xs) (h : L2.atI xs i = some d) (q : k d M) : XR K (rIx K) x (.int i) M k := fun F H v u s r1 r2 Q g => by
  cases r2
  obtain ⟨a, vs, rfl, h1, q1⟩ := hx.get s r1
  obtain ⟨w, hw, rw'⟩ := q1.atI h
  exact .inl ⟨a, vs, i, w, rfl, rfl, SqL.of h1, hw, g.now s rw' q⟩
theorem XR.ix_ro {xs : List D} {i : Int} {d : D} (h : L2.atI xs i = some d) (q : k d M) : XR K (rIx K) (.ro xs) (.int i) M k := fun F H v u s r1 r2 Q g => by
  cases r2
  cases r1 with
  | @ro a vs _ h1 q1 =>
    obtain ⟨w, hw, rw'⟩ := q1.atI h
    exact .inl ⟨a, vs, i, w, rfl, rfl, ex_l s.ex h1, hw, g.now s rw' q⟩
theorem XR.ix_str {z : Str} {i : Int} {c : Nat} (hz : z.length ≤ 16000000) (h : L2.atI z.cps.toList i = some c) (q : k (.str ⟨#[c]⟩) M) : XR K (rIx K) (.str z) (.int i) M k := fun F H v u s r1 r2 Q g => by
  cases r2
  cases r1
  exact .inr (.inr ⟨z, i, c, rfl, rfl, sz hz, h, g.now s (.str _) q⟩)

/-! ### slices -/
def cutD {α : Type} (xs : List α) (lo hi : Option Int) : List α := (xs.drop (HT.sIx xs.length 0 lo)).take (HT.sIx xs.length xs.length hi - HT.sIx xs.length 0 lo)
theorem Reps.cut {ds : List D} {vs : List V} (r : Reps K F ds vs) (lo hi : Option Int) : Reps K F (cutD ds lo hi) (cutV vs lo hi) := by
  unfold cutD cutV
  rw [← r.length]
  exact (r.drop _).take _
abbrev RS := V → Option Int → Option Int → Hp → VK → Prop
def XSl (K : PySem.W.Frag) (r : RS) (x : D) (lo hi : Option Int) (M : Mem) (k : D → Mem → Prop) : Prop :=
  ∀ F H vx, Stt K F H M → Rep K F x vx → ∀ Q : VK, Go K F H M k Q → r vx lo hi H Q
def GoO (K : PySem.W.Frag) (F H : Hp) (M : Mem) (k : Option Int → Mem → Prop) (Q : Option Int → Hp → Prop) : Prop := ∀ d M' F' H', Nxt K F H M F' H' M' → k d M' → Q d H'
def XO (C : Cfg) (to : TO) (ds : DS) (M : Mem) (k : Option Int → Mem → Prop) : Prop :=
  ∀ F H σ, Stt C.K F H M → EnvR C.K F ds σ → Cov C F H M → ∀ Q : Option Int → Hp → Prop, GoO C.K F H M k Q → to σ H Q
theorem XO.none {C : Cfg} {ds : DS} {k : Option Int → Mem → Prop} (q : k Option.none M) : XO C tNoPart ds M k := fun F H σ s e c Q g => g Option.none M F H (Nxt.refl s) q
theorem XO.some {C : Cfg} {ds : DS} {te : TE} {k : Option Int → Mem → Prop} (h : XE C te ds M fun x M1 => ∃ i, x = .int i ∧ k (Option.some i) M1) : XO C (tPart te) ds M k := fun F H σ s e c Q g =>
  h F H σ s e c _ fun x M1 v F1 H1 n1 r1 h1 => by
    obtain ⟨i, rfl, h2⟩ := h1
    cases r1
    exact ⟨i, rfl, g _ _ _ _ n1 h2⟩
theorem XE.slice {C : Cfg} {ds : DS} {r : RS} {te : TE} {tl th : TO} {k : D → Mem → Prop} (h : XE C te ds M fun x M1 => XO C tl ds M1 fun lo M2 => XO C th ds M2 fun hi M3 => XSl C.K r x lo hi M3 k) : XE C (tSl r te tl th) ds M k := fun F H σ s e c Q g =>
  h F H σ s e c _ fun x M1 v F1 H1 n1 r1 h1 => h1 F1 H1 σ n1.st (e.mono n1.ex) (c.next n1) _ fun lo M2 F2 H2 n2 h2 => h2 F2 H2 σ n2.st (e.mono (n1.trans n2).ex) (c.next (n1.trans n2)) _ fun hi M3 F3 H3 n3 h3 =>
    h3 F3 H3 v n3.st (r1.mono (n2.trans n3).ex) Q (g.next ((n1.trans n2).trans n3))
def rSlU (K : PySem.W.Frag) : RS := fun x lo hi H Q => rSlS x lo hi H Q ∨ rSlL K x lo hi H Q ∨ rSlA K x lo hi H Q
theorem sl_U {X : Cx} : SlR X (rSlU X.K) := SlR.or sl_str (SlR.or sl_list sl_tupA)
theorem XSl.str {z : Str} {lo hi : Option Int} (hz : z.length ≤ 16000000) (q : k (.str (cutS z lo hi)) M) : XSl K (rSlU K) (.str z) lo hi M k := fun F H v s r Q g => by
  cases r
  exact .inl ⟨z, rfl, sz hz, g.now s (.str _) q⟩
theorem XSl.lst {x : D} {xs : List D} {lo hi : Option Int} (hx : LsAt M x xs) (q : k (.lst (cutD xs lo hi)) M) : XSl K (rSlU K) x lo hi M k := fun F H v s r Q g => by
  obtain ⟨a, vs, rfl, h1, q1⟩ := hx.get s r
  refine .inr (.inl ⟨a, vs, rfl, SqL.of h1, fun p hp => ?_⟩)
  have n := Nxt.newF s (o := .lst (cutV vs lo hi)) hp
  exact g _ _ _ _ _ n (.lst upd_same ((q1.cut lo hi).mono n.ex)) q
theorem XSl.tup {xs : List D} {lo hi : Option Int} (q : k (.tup (cutD xs lo hi)) M) : XSl K (rSlU K) (.tup xs) lo hi M k := fun F H v s r Q g => by
  cases r with
  | @tup a vs _ h1 q1 =>
    refine .inr (.inr ⟨a, vs, rfl, ex_t s.ex h1, fun e => ?_, fun _ p hp => ?_⟩)
    · have e2 : cutD xs lo hi = xs := by
        unfold cutD
        rw [q1.length, e.1, e.2, Nat.sub_zero, List.drop_zero, ← q1.length]
        exact List.take_length
      rw [e2] at q
      exact g.now s (.tup h1 q1) q
    · have n := Nxt.newF s (o := .tup (cutV vs lo hi)) hp
      exact g _ _ _ _ _ n (.tup (.inl (.inl upd_same)) ((q1.cut lo hi).mono n.ex)) q

/-! ### == of data -/
mutual
def D.py : D → PyData
  | .non => .none
  | .bl b => .bool b
  | .int i => .int i
  | .str x => .str x
  | .tup xs => .tuple (pyAll xs)
  | .lst xs => .list (pyAll xs)
  | .ro xs => .list (pyAll xs)
  | .ins _ _ => .none
  | .dct _ => .none
  | .raw _ => .none
  | .ty _ => .none
  | .exc _ _ => .none
def pyAll : List D → List PyData
  | [] => []
  | x :: xs => D.py x :: pyAll xs
end
def okD : Nat → D → Bool
  | _, .non => true
  | _, .bl _ => true
  | _, .int _ => true
  | _, .str x => x.cps.all (· < 0x110000)
  | n + 1, .tup xs => xs.all (okD n)
  | n + 1, .lst xs => xs.all (okD n)
  | n + 1, .ro xs => xs.all (okD n)
  | _, _ => false
theorem okD_lay : ∀ (n : Nat) (d : D), okD n d = true → d.py.canLay0 = true ∧ d.py.depth ≤ n := by
  intro n
  induction n with
  | zero =>
    intro d h
    cases d <;> simp [okD] at h <;> simp [D.py, PyData.canLay0, PyData.depth, PyData.strOk, h]
    all_goals assumption
  | succ n ih =>
    have all : ∀ xs : List D, xs.all (okD n) = true → PyData.canLayAll0 (pyAll xs) = true ∧ PyData.depthAll (pyAll xs) ≤ n := by
      intro xs
      induction xs with
      | nil => intro _; simp [pyAll, PyData.canLayAll0, PyData.depthAll]
      | cons x xs ihx =>
        intro h
        rw [List.all_cons, Bool.and_eq_true] at h
        obtain ⟨h1, h2⟩ := ih x h.1
        obtain ⟨h3, h4⟩ := ihx h.2
        simp only [pyAll, PyData.canLayAll0, PyData.depthAll, h1, h3, Bool.and_self, true_and]
        omega
    intro d h
    cases d with
    | tup xs =>
      obtain ⟨h1, h2⟩ := all xs (by simpa [okD] using h)
      simp only [D.py, PyData.canLay0, PyData.depth, h1, true_and]
      omega
    | lst xs =>
      obtain ⟨h1, h2⟩ := all xs (by simpa [okD] using h)
      simp only [D.py, PyData.canLay0, PyData.depth, h1, true_and]
      omega
    | ro xs =>
      obtain ⟨h1, h2⟩ := all xs (by simpa [okD] using h)
      simp only [D.py, PyData.canLay0, PyData.depth, h1, true_and]
      omega
    | str x =>
      simp [okD] at h
      simp [D.py, PyData.canLay0, PyData.depth, PyData.strOk]
      exact h
    | _ => simp [okD] at h <;> simp [D.py, PyData.canLay0, PyData.depth]
theorem okD_shaped {n : Nat} {d : D} (h : okD n d = true) (hn : n ≤ 64) : SeqAt.shaped d.py = true := by
  obtain ⟨h1, h2⟩ := okD_lay n d h
  unfold SeqAt.shaped
  rw [h1, decide_eq_true (Nat.le_trans h2 hn)]
  rfl
theorem okD_dp (e : Ex F H) : ∀ (n : Nat) (d : D) (v : V), okD n d = true → Rep K F d v → Dp K H v d.py := by
  intro n
  induction n with
  | zero =>
    intro d v h r
    cases d <;> simp [okD] at h <;> cases r
    · exact .non
    · exact .bl _
    · exact .int _
    · exact .str _
  | succ n ih =>
    have all : ∀ (xs : List D) (vs : List V), xs.all (okD n) = true → Reps K F xs vs → DpAll K H vs (pyAll xs) := by
      intro xs
      induction xs with
      | nil =>
        intro vs _ r
        cases r
        exact .nil
      | cons x xs ihx =>
        intro vs h r
        rw [List.all_cons, Bool.and_eq_true] at h
        cases r with
        | cons r1 r2 => exact .cons (ih x _ h.1 r1) (ihx _ h.2 r2)
    intro d v h r
    cases d with
    | tup xs => cases r with | tup h1 q1 => exact .tup (ex_t e h1) (all xs _ (by simpa [okD] using h) q1)
    | lst xs => cases r with | lst h1 q1 => exact .lst (SqL.of (e _ _ h1)) (all xs _ (by simpa [okD] using h) q1)
    | ro xs => cases r with | ro h1 q1 => exact .lst (ex_l e h1) (all xs _ (by simpa [okD] using h) q1)
    | non => cases r; exact .non
    | bl _ => cases r; exact .bl _
    | int _ => cases r; exact .int _
    | str _ => cases r; exact .str _
    | _ => simp [okD] at h
def rEqU (K : PySem.W.Frag) : R2 := fun x y H Q => rEq x y H Q ∨ rEqD K x y H Q
def rNeU (K : PySem.W.Frag) : R2 := fun x y H Q => rNe x y H Q ∨ rNeD K x y H Q
theorem op_eqU {X : Cx} (hu : X.A.units + 64 < cLine) : OpR X (compareOp .Eq) (rEqU X.K) := OpR.or op_eq (op_eqD hu)
theorem op_neU {X : Cx} (hu : X.A.units + 64 < cLine) : OpR X (compareOp .NotEq) (rNeU X.K) := OpR.or op_ne (op_neD hu)
theorem XR.eq_int {i j : Int} (h : k (.bl (decide (i = j))) M) : XR K (rEqU K) (.int i) (.int j) M k := fun F H v u s r1 r2 Q g => by
  cases r1
  cases r2
  refine .inl ⟨rfl, ?_⟩
  have e : decide (V.int i = V.int j) = decide (i = j) := by simp
  rw [e]
  exact g.now s (.bl _) h
theorem XR.ne_int {i j : Int} (h : k (.bl (!decide (i = j))) M) : XR K (rNeU K) (.int i) (.int j) M k := fun F H v u s r1 r2 Q g => by
  cases r1
  cases r2
  refine .inl ⟨rfl, ?_⟩
  have e : decide (V.int i = V.int j) = decide (i = j) := by simp
  rw [e]
  exact g.now s (.bl _) h
theorem XR.eq_str {i j : Str} (h : k (.bl (decide (i = j))) M) : XR K (rEqU K) (.str i) (.str j) M k := fun F H v u s r1 r2 Q g => by
  cases r1
  cases r2
  refine .inl ⟨rfl, ?_⟩
  have e : decide (V.str i = V.str j) = decide (i = j) := by simp
  rw [e]
  exact g.now s (.bl _) h
theorem XR.ne_str {i j : Str} (h : k (.bl (!decide (i = j))) M) : XR K (rNeU K) (.str i) (.str j) M k := fun F H v u s r1 r2 Q g => by
  cases r1
  cases r2
  refine .inl ⟨rfl, ?_⟩
  have e : decide (V.str i = V.str j) = decide (i = j) := by simp
  rw [e]
  exact g.now s (.bl _) h
/-- how a thing looks to == : itself, or the list that is owned -/
inductive SeAt (M : Mem) : D → D → Prop
  | self {d} : SeAt M d d
  | raw {p xs} : At M p (.lst xs) → SeAt M (.raw p) (.lst xs)
theorem SeAt.dp {x d : D} {v : V} {n : Nat} (h : SeAt M x d) (s : Stt K F H M) (r : Rep K F x v) (hd : okD n d = true) : Dp K H v d.py := by
  cases h with
  | self => exact okD_dp s.ex n _ _ hd r
  | raw ha =>
    cases r
    obtain ⟨_, o, h1, vs, rfl, q⟩ := s.at ha
    cases n with
    | zero => simp [okD] at hd
    | succ n =>
      have all : ∀ (xs : List D) (vs : List V), xs.all (okD n) = true → Reps K F xs vs → DpAll K H vs (pyAll xs) := by
        intro xs
        induction xs with
        | nil =>
          intro vs _ r
          cases r
          exact .nil
        | cons x xs ihx =>
          intro vs h r
          rw [List.all_cons, Bool.and_eq_true] at h
          cases r with
          | cons r1 r2 => exact .cons (okD_dp s.ex n _ _ h.1 r1) (ihx _ h.2 r2)
      exact .lst (SqL.of h1) (all _ _ (by simpa [okD] using hd) q)
theorem XR.eqD {x y d e : D} {n m : Nat} (hx : SeAt M x d) (hy : SeAt M y e) (hd : okD n d = true) (he : okD m e = true) (hn : n ≤ 64) (hm : m ≤ 64) (h : k (.bl (PyData.eqv d.py e.py)) M) : XR K (rEqU K) x y M k := fun F H v u s r1 r2 Q g =>
  .inr ⟨d.py, e.py, hx.dp s r1 hd, hy.dp s r2 he, okD_shaped hd hn, okD_shaped he hm, g.now s (.bl _) h⟩
theorem XR.neD {x y d e : D} {n m : Nat} (hx : SeAt M x d) (hy : SeAt M y e) (hd : okD n d = true) (he : okD m e = true) (hn : n ≤ 64) (hm : m ≤ 64) (h : k (.bl (!PyData.eqv d.py e.py)) M) : XR K (rNeU K) x y M k := fun F H v u s r1 r2 Q g =>
  .inr ⟨d.py, e.py, hx.dp s r1 hd, hy.dp s r2 he, okD_shaped hd hn, okD_shaped he hm, g.now s (.bl _) h⟩

/-! no bools within: == is identity -/
mutual
def nobl : PyData → Bool
  | .bool _ => false
  | .dict _ => false
  | .list xs => noblAll xs
  | .tuple xs => noblAll xs
  | _ => true
def noblAll : List PyData → Bool
  | [] => true
  | x :: xs => nobl x && noblAll xs
end
mutual
theorem eqv_iff : ∀ (a b : PyData), nobl a = true → nobl b = true → (PyData.eqv a b = true ↔ a = b)
  | .none, b, _, _ => by cases b <;> simp [PyData.eqv]
  | .bool _, _, h, _ => by simp [nobl] at h
  | .int i, b, _, hb => by cases b <;> simp [PyData.eqv, nobl] at hb ⊢
  | .str i, b, _, hb => by cases b <;> simp [PyData.eqv, nobl] at hb ⊢
  | .list xs, b, ha, hb => by
    cases b <;> simp [PyData.eqv, nobl] at ha hb ⊢
    exact eqv_iffs xs _ ha hb
  | .tuple xs, b, ha, hb => by
    cases b <;> simp [PyData.eqv, nobl] at ha hb ⊢
    exact eqv_iffs xs _ ha hb
  | .dict _, _, h, _ => by simp [nobl] at h
theorem eqv_iffs : ∀ (a b : List PyData), noblAll a = true → noblAll b = true → (PyData.eqvAll a b = true ↔ a = b)
  | [], b, _, _ => by cases b <;> simp [PyData.eqvAll]
  | x :: xs, [], _, _ => by simp [PyData.eqvAll]
  | x :: xs, y :: ys, ha, hb => by
    simp only [noblAll, Bool.and_eq_true] at ha hb
    simp only [PyData.eqvAll, Bool.and_eq_true, List.cons.injEq, eqv_iff x y ha.1 hb.1, eqv_iffs xs ys ha.2 hb.2]
end

/-! ### in -/
/-- d in a tuple of data -/
def rInT (K : PySem.W.Frag) (neg : Bool) : R2 := fun x y H Q => ∃ d ds, Dp K H x d ∧ (Dp K H y (.tuple ds) ∨ Dp K H y (.list ds)) ∧ SeqAt.shaped d = true ∧ SeqAt.shaped (.list ds) = true ∧ Q (.bl (if neg then !ds.any (fun z => PyData.eqv z d) else ds.any fun z => PyData.eqv z d)) H
end
end DL

namespace DL
open PySem L2 PyProof.Rows

/-! ### in, over data -/
def rInU (K : PySem.W.Frag) : R2 := fun x y H Q => ∃ d ds, Dp K H x d ∧ (Dp K H y (.tuple ds) ∨ Dp K H y (.list ds)) ∧ SeqAt.shaped d = true ∧ SeqAt.shaped (.list ds) = true ∧ Q (.bl (ds.any fun z => PyData.eqv z d)) H
def rNiU (K : PySem.W.Frag) : R2 := fun x y H Q => ∃ d ds, Dp K H x d ∧ (Dp K H y (.tuple ds) ∨ Dp K H y (.list ds)) ∧ SeqAt.shaped d = true ∧ SeqAt.shaped (.list ds) = true ∧ Q (.bl (!ds.any fun z => PyData.eqv z d)) H
theorem op_inU {X : Cx} (hu : X.A.units + 65 < cLine) : OpR X (compareOp .In) (rInU X.K) := by
  intro pins s σ H x y v u Q I rx ry h
  obtain ⟨d, ds, hd, he, sd, se, q⟩ := h
  obtain ⟨as, r1⟩ := Dp.reads I d x v hd rx
  rcases he with he | he
  · obtain ⟨bs, r2⟩ := Dp.reads I (.tuple ds) y u he ry
    exact SeqAt.in_tuple_reads r2 r1 (SeqAt.canLay_of_shaped se) (SeqAt.canLay_of_shaped sd) (room_in_shaped sd hu) ⟨.bl _, H, I, rfl, q⟩
  · obtain ⟨bs, r2⟩ := Dp.reads I (.list ds) y u he ry
    exact SeqAt.in_list_reads r2 r1 (SeqAt.canLay_of_shaped se) (SeqAt.canLay_of_shaped sd) (room_in_shaped sd hu) ⟨.bl _, H, I, rfl, q⟩
theorem op_niU {X : Cx} (hu : X.A.units + 65 < cLine) : OpR X (compareOp .NotIn) (rNiU X.K) := by
  intro pins s σ H x y v u Q I rx ry h
  obtain ⟨d, ds, hd, he, sd, se, q⟩ := h
  obtain ⟨as, r1⟩ := Dp.reads I d x v hd rx
  rcases he with he | he
  · obtain ⟨bs, r2⟩ := Dp.reads I (.tuple ds) y u he ry
    exact SeqAt.notIn_tuple_reads r2 r1 (SeqAt.canLay_of_shaped se) (SeqAt.canLay_of_shaped sd) (room_in_shaped sd hu) ⟨.bl _, H, I, rfl, q⟩
  · obtain ⟨bs, r2⟩ := Dp.reads I (.list ds) y u he ry
    exact SeqAt.notIn_list_reads r2 r1 (SeqAt.canLay_of_shaped se) (SeqAt.canLay_of_shaped sd) (room_in_shaped sd hu) ⟨.bl _, H, I, rfl, q⟩
/-- one sign in a text -/
def rInC : R2 := fun x y H Q => ∃ (c : Nat) (z : Str), x = .str ⟨#[c]⟩ ∧ y = .str z ∧ Q (.bl (decide (c ∈ z.cps.toList))) H
def rNiC : R2 := fun x y H Q => ∃ (c : Nat) (z : Str), x = .str ⟨#[c]⟩ ∧ y = .str z ∧ Q (.bl (!decide (c ∈ z.cps.toList))) H
def rInV (K : PySem.W.Frag) : R2 := fun x y H Q => rInC x y H Q ∨ rInU K x y H Q
def rNiV (K : PySem.W.Frag) : R2 := fun x y H Q => rNiC x y H Q ∨ rNiU K x y H Q
theorem op_inV {X : Cx} (hu : X.A.units + 65 < cLine) : OpR X (compareOp .In) (rInV X.K) := OpR.or op_in_sign (op_inU hu)
theorem op_niV {X : Cx} (hu : X.A.units + 65 < cLine) : OpR X (compareOp .NotIn) (rNiV X.K) := OpR.or op_notIn_sign (op_niU hu)

section
variable {K : PySem.W.Frag} {F H : Hp} {M : Mem} {k : D → Mem → Prop}
theorem XR.in_sign {c : Nat} {z : Str} (h : k (.bl (decide (c ∈ z.cps.toList))) M) : XR K (rInV K) (.str ⟨#[c]⟩) (.str z) M k := fun F H v u s r1 r2 Q g => by
  cases r1
  cases r2
  exact .inl ⟨c, z, rfl, rfl, g.now s (.bl _) h⟩
theorem XR.ni_sign {c : Nat} {z : Str} (h : k (.bl (!decide (c ∈ z.cps.toList))) M) : XR K (rNiV K) (.str ⟨#[c]⟩) (.str z) M k := fun F H v u s r1 r2 Q g => by
  cases r1
  cases r2
  exact .inl ⟨c, z, rfl, rfl, g.now s (.bl _) h⟩
/-- a sequence as == sees it -/
inductive SqAt (M : Mem) : D → List D → Prop
  | tup {xs} : SqAt M (.tup xs) xs
  | lst {xs} : SqAt M (.lst xs) xs
  | ro {xs} : SqAt M (.ro xs) xs
  | raw {p xs} : At M p (.lst xs) → SqAt M (.raw p) xs
theorem okL {n : Nat} {xs : List D} (h : okD n (.lst xs) = true) : ∃ m, n = m + 1 ∧ xs.all (okD m) = true := by
  cases n with
  | zero => simp [okD] at h
  | succ m => exact ⟨m, rfl, by simpa [okD] using h⟩
theorem SqAt.dp {y : D} {xs : List D} {v : V} {n : Nat} (h : SqAt M y xs) (s : Stt K F H M) (r : Rep K F y v) (hd : okD n (.lst xs) = true) : Dp K H v (.tuple (pyAll xs)) ∨ Dp K H v (.list (pyAll xs)) := by
  obtain ⟨m, rfl, hm⟩ := okL hd
  cases h with
  | tup => exact .inl (okD_dp s.ex (m + 1) (.tup xs) v (by simpa [okD] using hm) r)
  | lst => exact .inr (okD_dp s.ex (m + 1) (.lst xs) v hd r)
  | ro => exact .inr (okD_dp s.ex (m + 1) (.ro xs) v (by simpa [okD] using hm) r)
  | raw ha => exact .inr ((SeAt.raw ha).dp s r hd)
theorem XR.inD {x y d : D} {ys : List D} {n m : Nat} (hx : SeAt M x d) (hy : SqAt M y ys) (hd : okD n d = true) (he : okD m (.lst ys) = true) (hn : n ≤ 64) (hm : m ≤ 64) (h : k (.bl ((pyAll ys).any fun z => PyData.eqv z d.py)) M) : XR K (rInV K) x y M k := fun F H v u s r1 r2 Q g =>
  .inr ⟨d.py, pyAll ys, hx.dp s r1 hd, hy.dp s r2 he, okD_shaped hd hn, okD_shaped (d := .lst ys) he hm, g.now s (.bl _) h⟩
theorem XR.niD {x y d : D} {ys : List D} {n m : Nat} (hx : SeAt M x d) (hy : SqAt M y ys) (hd : okD n d = true) (he : okD m (.lst ys) = true) (hn : n ≤ 64) (hm : m ≤ 64) (h : k (.bl (!(pyAll ys).any fun z => PyData.eqv z d.py)) M) : XR K (rNiV K) x y M k := fun F H v u s r1 r2 Q g =>
  .inr ⟨d.py, pyAll ys, hx.dp s r1 hd, hy.dp s r2 he, okD_shaped hd hn, okD_shaped (d := .lst ys) he hm, g.now s (.bl _) h⟩
/-- is None -/
def rIsN' : R2 := fun x y H Q => y = .non ∧ Q (.bl (decide (x = .non))) H
def rNtN' : R2 := fun x y H Q => y = .non ∧ Q (.bl (!decide (x = .non))) H
theorem op_isN' {X : Cx} : OpR X (compareOp .Is) rIsN' := op_isN
theorem op_ntN' {X : Cx} : OpR X (compareOp .IsNot) rNtN' := op_notN
def D.isNon : D → Bool
  | .non => true
  | _ => false
theorem Rep.isNon {d : D} {v : V} (r : Rep K F d v) : decide (v = .non) = d.isNon := by
  cases r <;> rfl
theorem XR.isN {x : D} (h : k (.bl x.isNon) M) : XR K rIsN' x .non M k := fun F H v u s r1 r2 Q g => by
  cases r2
  refine ⟨rfl, ?_⟩
  rw [r1.isNon]
  exact g.now s (.bl _) h
theorem XR.ntN {x : D} (h : k (.bl (!x.isNon)) M) : XR K rNtN' x .non M k := fun F H v u s r1 r2 Q g => by
  cases r2
  refine ⟨rfl, ?_⟩
  rw [r1.isNon]
  exact g.now s (.bl _) h

/-! ### calls on values -/
theorem XE.cb {C : Cfg} {ds : DS} {r : List V → Hp → VK → Prop} {t : TA} (h : XA C t ds M fun xs M1 => XC C.K r xs M1 k) : XE C (tCB r t) ds M k := fun F H σ s e c Q g =>
  h F H σ s e c _ fun xs M1 vs F1 H1 n1 r1 h1 => h1 F1 H1 vs n1.st r1 Q (g.next n1)
def rLenN (K : PySem.W.Frag) : List V → Hp → VK → Prop := fun xs H Q => ∃ x n, xs = [x] ∧ LenV K x H n ∧ Q (.int n) H
def rLenD : List V → Hp → VK → Prop := fun xs H Q => ∃ a kvs, xs = [V.ref a] ∧ H a = some (.dK kvs) ∧ Q (.int kvs.length) H
def rLenU (K : PySem.W.Frag) : List V → Hp → VK → Prop := fun xs H Q => rLenN K xs H Q ∨ rLenD xs H Q
theorem cr_len {X : Cx} : CallR X (.builtin "len") (rLenU X.K) := CallR.or call_len call_lenD
theorem XC.len {y : D} {xs : List D} (hy : SqAt M y xs) (h : k (.int xs.length) M) : XC K (rLenU K) [y] M k := fun F H vs s r Q g => by
  cases r with
  | cons r1 r2 =>
    cases r2
    refine .inl ?_
    cases hy with
    | tup =>
      cases r1 with
      | @tup a us _ h1 q1 => exact ⟨.ref a, us.length, rfl, .inr ⟨us, ex_t s.ex h1, rfl⟩, by rw [← q1.length]; exact g.now s (.int _) h⟩
    | lst =>
      cases r1 with
      | @lst a us _ h1 q1 => exact ⟨.ref a, us.length, rfl, .inl ⟨us, SqL.of (s.ex _ _ h1), rfl⟩, by rw [← q1.length]; exact g.now s (.int _) h⟩
    | ro =>
      cases r1 with
      | @ro a us _ h1 q1 => exact ⟨.ref a, us.length, rfl, .inl ⟨us, ex_l s.ex h1, rfl⟩, by rw [← q1.length]; exact g.now s (.int _) h⟩
    | @raw p _ ha =>
      cases r1
      obtain ⟨_, o, h1, us, rfl, q1⟩ := s.at ha
      exact ⟨.ref p, us.length, rfl, .inl ⟨us, SqL.of h1, rfl⟩, by rw [← q1.length]; exact g.now s (.int _) h⟩
theorem XC.len_str {z : Str} (hz : z.length ≤ 16000000) (h : k (.int z.length) M) : XC K (rLenU K) [.str z] M k := fun F H vs s r Q g => by
  cases r with
  | cons r1 r2 =>
    cases r2
    cases r1
    exact .inl ⟨.str z, z.length, rfl, ⟨sz hz, rfl⟩, g.now s (.int _) h⟩
theorem RepK.length {F : Hp} : ∀ {fs : List (Key × D)} {gs : List (Key × V)}, RepK K F fs gs → fs.length = gs.length
  | _, _, .nil => rfl
  | _, _, .cons _ r => by rw [List.length_cons, List.length_cons, RepK.length r]
/-- how a dict stands -/
inductive DcAt (M : Mem) : D → List (Key × D) → Prop
  | dct {kvs} : DcAt M (.dct kvs) kvs
  | raw {p kvs} : At M p (.dct kvs) → DcAt M (.raw p) kvs
theorem DcAt.get {x : D} {es : List (Key × D)} {v : V} (h : DcAt M x es) (s : Stt K F H M) (r : Rep K F x v) : ∃ p kvs, v = .ref p ∧ H p = some (.dK kvs) ∧ RepK K F es kvs := by
  cases h with
  | dct =>
    cases r with
    | dct h q => exact ⟨_, _, rfl, s.ex _ _ h, q⟩
  | raw ha =>
    cases r
    obtain ⟨_, o, h1, vs, rfl, q⟩ := s.at ha
    exact ⟨_, _, rfl, h1, q⟩
theorem XC.len_dct {y : D} {es : List (Key × D)} (hy : DcAt M y es) (h : k (.int es.length) M) : XC K (rLenU K) [y] M k := fun F H vs s r Q g => by
  cases r with
  | cons r1 r2 =>
    cases r2
    obtain ⟨a, kvs, rfl, h1, q1⟩ := hy.get s r1
    exact .inr ⟨a, kvs, rfl, h1, by rw [← q1.length]; exact g.now s (.int _) h⟩
def rAbs : List V → Hp → VK → Prop := fun xs H Q => ∃ i, xs = [.int i] ∧ Q (.int (if i < 0 then -i else i)) H
theorem cr_abs {X : Cx} : CallR X (.builtin "abs") rAbs := call_abs
theorem abs_eq (i : Int) : (if i < 0 then -i else i) = (i.natAbs : Int) := by split <;> omega
theorem XC.abs {i : Int} (h : k (.int (i.natAbs : Int)) M) : XC K rAbs [.int i] M k := fun F H vs s r Q g => by
  cases r with
  | cons r1 r2 =>
    cases r2
    cases r1
    exact ⟨i, rfl, by rw [abs_eq]; exact g.now s (.int _) h⟩
def rMax : List V → Hp → VK → Prop := fun xs H Q => ∃ i j, xs = [.int i, .int j] ∧ Q (.int (if j > i then j else i)) H
theorem cr_max2 {X : Cx} (hc : X.calm = true) : CallR X (.builtin "max") rMax := call_max2 hc
theorem XC.max2 {i j : Int} (h : k (.int (max i j)) M) : XC K rMax [.int i, .int j] M k := fun F H vs s r Q g => by
  cases r with
  | cons r1 r2 =>
    cases r2 with
    | cons r2 r3 =>
      cases r3
      cases r2
      cases r1
      refine ⟨i, j, rfl, ?_⟩
      have e : (if j > i then j else i) = max i j := by split <;> omega
      rw [e]
      exact g.now s (.int _) h
def rMin : List V → Hp → VK → Prop := fun xs H Q => ∃ i j, xs = [.int i, .int j] ∧ Q (.int (if j < i then j else i)) H
theorem cr_min2 {X : Cx} (hc : X.calm = true) : CallR X (.builtin "min") rMin := call_min2 hc
theorem XC.min2 {i j : Int} (h : k (.int (min i j)) M) : XC K rMin [.int i, .int j] M k := fun F H vs s r Q g => by
  cases r with
  | cons r1 r2 =>
    cases r2 with
    | cons r2 r3 =>
      cases r3
      cases r2
      cases r1
      refine ⟨i, j, rfl, ?_⟩
      have e : (if j < i then j else i) = min i j := by split <;> omega
      rw [e]
      exact g.now s (.int _) h
def rStrI : List V → Hp → VK → Prop := fun xs H Q => ∃ i : Int, xs = [.int i] ∧ i.natAbs.log2 < 1920 ∧ Q (.str (toString i)) H
theorem cr_strI {X : Cx} : CallR X (.type "str") rStrI := call_str_int
theorem XC.strI {i : Int} (hi : i.natAbs.log2 < 1920) (h : k (.str (toString i)) M) : XC K rStrI [.int i] M k := fun F H vs s r Q g => by
  cases r with
  | cons r1 r2 =>
    cases r2
    cases r1
    exact ⟨i, rfl, hi, g.now s (.str _) h⟩
def rInt1 : List V → Hp → VK → Prop := fun xs H Q => (∃ i, xs = [.int i] ∧ Q (.int i) H) ∨ ∃ k, xs = [.bl k] ∧ Q (.int (if k then 1 else 0)) H
def rIntS : List V → Hp → VK → Prop := fun xs H Q => ∃ a n, xs = [.str a] ∧ PySem.intText? a = some n ∧ a.length ≤ 640 ∧ Q (.int n) H
def rIntU : List V → Hp → VK → Prop := fun xs H Q => rInt1 xs H Q ∨ rIntS xs H Q
theorem cr_int {X : Cx} : CallR X (.type "int") rIntU := CallR.or call_int1 call_int_str
theorem XC.int_bl {b : Bool} (h : k (.int (if b then 1 else 0)) M) : XC K rIntU [.bl b] M k := fun F H vs s r Q g => by
  cases r with
  | cons r1 r2 =>
    cases r2
    cases r1
    exact .inl (.inr ⟨b, rfl, g.now s (.int _) h⟩)
theorem XC.int_str {a : Str} {n : Int} (hn : PySem.intText? a = some n) (hl : a.length ≤ 640) (h : k (.int n) M) : XC K rIntU [.str a] M k := fun F H vs s r Q g => by
  cases r with
  | cons r1 r2 =>
    cases r2
    cases r1
    exact .inr ⟨a, n, rfl, hn, hl, g.now s (.int _) h⟩
def rTupOf (K : PySem.W.Frag) : List V → Hp → VK → Prop := fun xs H Q => ∃ p ys, xs = [.ref p] ∧ ((SqL K H p ys ∧ ∀ l, H l = none → Q (.ref l) (upd H l (.tup ys))) ∨ (SqT K H p ys ∧ Q (.ref p) H))
theorem cr_tup {X : Cx} : CallR X (.type "tuple") (rTupOf X.K) := call_tuple_of
theorem XC.tup {y : D} {xs : List D} (hy : SqAt M y xs) (h : k (.tup xs) M) : XC K (rTupOf K) [y] M k := fun F H vs s r Q g => by
  cases r with
  | cons r1 r2 =>
    cases r2
    have go : ∀ (p : Addr) (us : List V), SqL K H p us → Reps K F xs us → rTupOf K [.ref p] H Q := fun p us hs q1 => ⟨p, us, rfl, .inl ⟨hs, fun l hl => by
      have n := Nxt.newF s (o := .tup us) hl
      exact g _ _ _ _ _ n (.tup (.inl (.inl upd_same)) (q1.mono n.ex)) h⟩⟩
    cases hy with
    | tup =>
      cases r1 with
      | @tup a us _ h1 q1 => exact ⟨a, us, rfl, .inr ⟨ex_t s.ex h1, g.now s (.tup h1 q1) h⟩⟩
    | lst =>
      cases r1 with
      | @lst a us _ h1 q1 => exact go a us (SqL.of (s.ex _ _ h1)) q1
    | ro =>
      cases r1 with
      | @ro a us _ h1 q1 => exact go a us (ex_l s.ex h1) q1
    | @raw p _ ha =>
      cases r1
      obtain ⟨_, o, h1, us, rfl, q1⟩ := s.at ha
      exact go p us (SqL.of h1) q1
def rLstOf (K : PySem.W.Frag) : List V → Hp → VK → Prop := fun xs H Q => ∃ p ys, xs = [.ref p] ∧ (SqL K H p ys ∨ SqT K H p ys) ∧ ∀ l, H l = none → Q (.ref l) (upd H l (.lst ys))
theorem cr_lst {X : Cx} : CallR X (.type "list") (rLstOf X.K) := call_list_of
theorem SqAt.get {y : D} {xs : List D} {v : V} (hy : SqAt M y xs) (s : Stt K F H M) (r1 : Rep K F y v) : ∃ p us, v = .ref p ∧ (SqL K H p us ∨ SqT K H p us) ∧ Reps K F xs us := by
  cases hy with
  | tup => cases r1 with | @tup a us _ h1 q1 => exact ⟨a, us, rfl, .inr (ex_t s.ex h1), q1⟩
  | lst => cases r1 with | @lst a us _ h1 q1 => exact ⟨a, us, rfl, .inl (SqL.of (s.ex _ _ h1)), q1⟩
  | ro => cases r1 with | @ro a us _ h1 q1 => exact ⟨a, us, rfl, .inl (ex_l s.ex h1), q1⟩
  | @raw p _ ha =>
    cases r1
    obtain ⟨_, o, h1, us, rfl, q1⟩ := s.at ha
    exact ⟨p, us, rfl, .inl (SqL.of h1), q1⟩
theorem XC.lst {y : D} {xs : List D} (hy : SqAt M y xs) (h : k (.lst xs) M) : XC K (rLstOf K) [y] M k := fun F H vs s r Q g => by
  cases r with
  | cons r1 r2 =>
    cases r2
    obtain ⟨p, us, rfl, hs, q1⟩ := hy.get s r1
    refine ⟨p, us, rfl, hs, fun l hl => ?_⟩
    have n := Nxt.newF s (o := .lst us) hl
    exact g _ _ _ _ _ n (.lst upd_same (q1.mono n.ex)) h
theorem XC.lstM {y : D} {xs : List D} (hy : SqAt M y xs) (h : ∀ p, p ∉ dom M → k (.raw p) ((p, .lst xs) :: M)) : XC K (rLstOf K) [y] M k := fun F H vs s r Q g => by
  cases r with
  | cons r1 r2 =>
    cases r2
    obtain ⟨p, us, rfl, hs, q1⟩ := hy.get s r1
    refine ⟨p, us, rfl, hs, fun l hl => ?_⟩
    have n := Nxt.newM s (o := .lst us) (m := .lst xs) hl ⟨_, rfl, q1⟩
    exact g _ _ _ _ _ n (.raw l) (h l (s.out hl))

/-! ### isinstance -/
def D.tyN : D → Option String
  | .non => some "NoneType"
  | .bl _ => some "bool"
  | .int _ => some "int"
  | .str _ => some "str"
  | .tup _ => some "tuple"
  | .lst _ => some "list"
  | .ro _ => some "list"
  | .dct _ => some "dict"
  | _ => none
theorem Rep.tyX {d : D} {v : V} {n : String} (e : Ex F H) (r : Rep K F d v) (h : d.tyN = some n) : TyX K H v (.type n) := by
  cases r <;> simp [D.tyN] at h <;> subst h
  · exact .base .non
  · exact .base (.bl _)
  · exact .base (.int _)
  · exact .base (.str _)
  · rename_i a vs ds h1 q1
    rcases ex_t e h1 with (h2 | ⟨o, h2⟩) | ⟨o, its, n, h2, h3, _⟩
    · exact .base (.tup h2)
    · exact .fTuple h2
    · exact .kTuple h2 h3
  · rename_i a vs ds h1 q1
    exact .base (.lst (e _ _ h1))
  · rename_i a vs ds h1 q1
    rcases ex_l e h1 with (h2 | ⟨o, h2⟩) | ⟨o, its, n, h2, h3, _⟩
    · exact .base (.lst h2)
    · exact .base (.frz h2)
    · exact .kList h2 h3
  · rename_i a es kvs h1 q1
    exact .base (.dK (e _ _ h1))
/-- what isinstance asks of a class whose instances are asked -/
structure TyC (K : PySem.W.Frag) (C : Addr) : Prop where
  cl : Cls K C
  ha : PySem.W.findIn K (.ref C) "__class__" = some (some (.builtin "object.__class__"))
  hn : PySem.W.specialIn K (.builtin "object.__class__") "__get__" = some (some (.builtin "getset_descriptor.__get__"))
  htk : PySem.W.takesIn K (.builtin "object.__class__") = some true
  hm : PySem.W.mroIn K C (.type "object") = some true
/-- how an instance stands -/
inductive InAt (M : Mem) : D → Addr → List (Str × D) → Prop
  | ins {C fs} : InAt M (.ins C fs) C fs
  | raw {p C fs} : At M p (.ins C fs) → InAt M (.raw p) C fs
theorem InAt.get {x : D} {C : Addr} {fs : List (Str × D)} {v : V} (h : InAt M x C fs) (s : Stt K F H M) (r : Rep K F x v) : ∃ p dx gs, v = .ref p ∧ H p = some (.ins C dx gs) ∧ RepF K F fs gs := by
  cases h with
  | ins =>
    cases r with
    | ins h q => exact ⟨_, _, _, rfl, s.ex _ _ h, q⟩
  | raw ha =>
    cases r
    obtain ⟨_, o, h1, dx, gs, rfl, q⟩ := s.at ha
    exact ⟨_, _, _, rfl, h1, q⟩
theorem XC.isi_ty {x : D} {a n : String} {b : Bool} (hx : x.tyN = some a) (hb : kitB a n = some b) (h : k (.bl b) M) : XC K (rIsi K) [x, .ty n] M k := fun F H vs s r Q g => by
  cases r with
  | cons r1 r2 =>
    cases r2 with
    | cons r2 r3 =>
      cases r3
      cases r2
      exact ⟨_, _, _, _, b, rfl, .ty n, r1.tyX s.ex hx, kit_ty hb, g.now s (.bl _) h⟩
theorem XC.isi_cls {x : D} {C : Addr} {a : String} {b : Bool} (hx : x.tyN = some a) (hb : PySem.W.kitOne K (.type a) (.ref C) = some b) (h : k (.bl b) M) : XC K (rIsi K) [x, .raw C] M k := fun F H vs s r Q g => by
  cases r with
  | cons r1 r2 =>
    cases r2 with
    | cons r2 r3 =>
      cases r3
      cases r2
      exact ⟨_, _, _, _, b, rfl, .own C, r1.tyX s.ex hx, hb, g.now s (.bl _) h⟩
theorem XC.isi_ins {x c : D} {C : Addr} {u : Value} {fs : List (Str × D)} {b : Bool} (hx : InAt M x C fs) (T : TyC K C) (hc : (∃ n, c = .ty n ∧ u = .type n) ∨ ∃ C', c = .raw C' ∧ u = .ref C') (hb : PySem.W.kitOne K (.ref C) u = some b) (h : k (.bl b) M) : XC K (rIsi K) [x, c] M k := fun F H vs s r Q g => by
  cases r with
  | cons r1 r2 =>
    cases r2 with
    | cons r2 r3 =>
      cases r3
      obtain ⟨p, dx, gs, rfl, h1, _⟩ := hx.get s r1
      rcases hc with ⟨n, rfl, rfl⟩ | ⟨C', rfl, rfl⟩
      · cases r2
        exact ⟨_, _, _, _, b, rfl, .ty n, .base (.ins h1 T.cl T.ha T.hn T.htk T.hm), hb, g.now s (.bl _) h⟩
      · cases r2
        exact ⟨_, _, _, _, b, rfl, .own C', .base (.ins h1 T.cl T.ha T.hn T.htk T.hm), hb, g.now s (.bl _) h⟩
def kitAnyB (a : String) : List String → Option Bool
  | [] => some false
  | n :: ns => match kitB a n with
    | some true => some true
    | some false => kitAnyB a ns
    | none => none
theorem kitAny_ty {K : PySem.W.Frag} {a : String} : ∀ {ns : List String} {b : Bool}, kitAnyB a ns = some b → PySem.W.kitAny K (.type a) (ns.map Value.type) = some b
  | [], b, h => by
    cases h
    exact kitAny_nil
  | n :: ns, b, h => by
    unfold kitAnyB at h
    cases e : kitB a n with
    | none =>
      rw [e] at h
      cases h
    | some c =>
      rw [e] at h
      cases c with
      | true =>
        cases h
        exact kitAny_cons (r := true) (kit_ty e) (fun z => by cases z) fun _ => rfl
      | false => exact kitAny_cons (kit_ty e) (fun _ => kitAny_ty h) fun z => by cases z
theorem paired_ty : ∀ {ns : List String} {vs : List V}, Reps K F (ns.map D.ty) vs → Paired ClsV vs (ns.map Value.type)
  | [], _, .nil => .nil
  | n :: ns, _, .cons r t => by
    cases r
    exact .cons (.ty n) (paired_ty t)
theorem XE.isiT {C : Cfg} {ds : DS} {ta : TE} {tr : TA} (h : XE C ta ds M fun x M1 => XA C tr ds M1 fun cs M2 => ∃ a b ns, cs = ns.map D.ty ∧ cs.length ≤ 16000000 ∧ x.tyN = some a ∧ kitAnyB a ns = some b ∧ k (.bl b) M2) :
    XE C (tCB (rIsiT C.K) (tCons ta (tCons (tTup tr) tNil))) ds M k := fun F H σ s e c Q g =>
  h F H σ s e c _ fun x M1 v F1 H1 n1 r1 h1 => h1 F1 H1 σ n1.st (e.mono n1.ex) (c.next n1) _ fun cs M2 vs F2 H2 n2 r2 h2 => by
    obtain ⟨a, b, ns, rfl, hl, hx, hb, q⟩ := h2
    refine ⟨by rw [← r2.length]; exact sz hl, fun p hp => ?_⟩
    have n3 := Nxt.newF n2.st (o := .tup vs) hp
    exact ⟨v, p, vs, _, ns.map Value.type, b, rfl, upd_same, paired_ty r2, (r1.mono (n2.trans n3).ex).tyX n3.st.ex hx, kitAny_ty hb, g _ _ _ _ _ ((n1.trans n2).trans n3) (.bl b) q⟩

/-! ### texts -/
def rSplit : V → List V → Hp → VK → Prop := fun x xs H Q => ∃ a b, x = .str a ∧ xs = [.str b] ∧ (b.length == 0) = false ∧ a.length + 2 ≤ sizeLine ∧ rNewStrs (Txt.split a b) H Q
def rJoin (K : PySem.W.Frag) : V → List V → Hp → VK → Prop := fun x xs H Q => ∃ a p, ∃ ys : List Str, x = .str a ∧ xs = [.ref p] ∧ (SqL K H p (ys.map V.str) ∨ SqT K H p (ys.map V.str)) ∧ (ys.map (·.length)).sum + ys.length * a.length ≤ 16777216 ∧ Q (.str (Txt.join a ys)) H
theorem XE.m1 {C : Cfg} {ds : DS} {r : V → List V → Hp → VK → Prop} {to te : TE} (h : XE C to ds M fun x M1 => (∃ a, x = .str a) ∧ XE C te ds M1 fun y M2 => XM C.K r x [y] M2 k) : XE C (tM1 r to te) ds M k := fun F H σ s e c Q g =>
  h F H σ s e c _ fun x M1 v F1 H1 n1 r1 h1 => by
    obtain ⟨⟨a, rfl⟩, h1⟩ := h1
    cases r1
    exact ⟨⟨a, rfl⟩, h1 F1 H1 σ n1.st (e.mono n1.ex) (c.next n1) _ fun y M2 u F2 H2 n2 r2 h2 => h2 F2 H2 _ _ n2.st (.str a) (.cons r2 .nil) Q ((g.next n1).next n2)⟩
theorem XM.split {a b : Str} (hb : (b.length == 0) = false) (ha : a.length ≤ 16000000) (h : k (.lst ((Txt.split a b).map D.str)) M) : XM K rSplit (.str a) [.str b] M k := fun F H v vs s r1 r2 Q g => by
  cases r1
  cases r2 with
  | cons r2 r3 =>
    cases r3
    cases r2
    refine ⟨a, b, rfl, rfl, hb, by rw [sizeLine_eq]; omega, fun p hp => ?_⟩
    have n := Nxt.newF s (o := .lst ((Txt.split a b).map V.str)) hp
    exact g _ _ _ _ _ n (.lst upd_same (Reps.ofStrs _)) h
theorem XM.join {a : Str} {y : D} {ys : List Str} (hy : SqAt M y (ys.map D.str)) (hl : (ys.map (·.length)).sum + ys.length * a.length ≤ 16777216) (h : k (.str (Txt.join a ys)) M) : XM K (rJoin K) (.str a) [y] M k := fun F H v vs s r1 r2 Q g => by
  cases r1
  cases r2 with
  | cons r2 r3 =>
    cases r3
    obtain ⟨p, us, rfl, hs, q⟩ := hy.get s r2
    rw [Reps.strs q] at hs
    exact ⟨a, p, ys, rfl, rfl, hs, hl, g.now s (.str _) h⟩
/-! f-strings -/
def tJn (ts : List TE) : TE := fun σ H Q => tJs ts Str.empty σ H fun out H1 => Q (.str out) H1
theorem pe_jn {X : Cx} {v1 v2 : Expr} {rest : List Expr} {ts : List TE} {pos : Pos} (h : PE X (.JoinedStr (v1 :: v2 :: rest) pos) (fun σ H Q => tJs ts Str.empty σ H fun out H1 => Q (.str out) H1)) : PE X (.JoinedStr (v1 :: v2 :: rest) pos) (tJn ts) := h
def XJ (C : Cfg) (ts : List TE) (acc : Str) (ds : DS) (M : Mem) (k : Str → Mem → Prop) : Prop :=
  ∀ F H σ, Stt C.K F H M → EnvR C.K F ds σ → Cov C F H M → ∀ Q : Str → Hp → Prop, (∀ o M' F' H', Nxt C.K F H M F' H' M' → k o M' → Q o H') → tJs ts acc σ H Q
theorem XJ.nil {C : Cfg} {ds : DS} {acc : Str} {k : Str → Mem → Prop} (h : k acc M) : XJ C [] acc ds M k := fun F H σ s e c Q g => g acc M F H (Nxt.refl s) h
theorem XJ.cons {C : Cfg} {ds : DS} {acc : Str} {k : Str → Mem → Prop} {t : TE} {ts : List TE} (h : XE C t ds M fun x M1 => ∃ y : Str, x = .str y ∧ (acc ++ y).length ≤ 16000000 ∧ XJ C ts (acc ++ y) ds M1 k) : XJ C (t :: ts) acc ds M k := fun F H σ s e c Q g =>
  h F H σ s e c _ fun x M1 v F1 H1 n1 r1 h1 => by
    obtain ⟨y, rfl, hl, h2⟩ := h1
    cases r1
    exact ⟨y, rfl, sz hl, h2 F1 H1 σ n1.st (e.mono n1.ex) (c.next n1) Q fun o M2 F2 H2 n2 => g o M2 F2 H2 (n1.trans n2)⟩
theorem XE.jn {C : Cfg} {ds : DS} {ts : List TE} (h : XJ C ts Str.empty ds M fun o M1 => k (.str o) M1) : XE C (tJn ts) ds M k := fun F H σ s e c Q g =>
  h F H σ s e c _ fun o M1 F1 H1 n1 h1 => g _ _ _ _ _ n1 (.str o) h1
theorem XE.fmt {C : Cfg} {ds : DS} {te : TE} (h : XE C te ds M fun x M1 => (∃ y : Str, x = .str y ∧ y.length ≤ 16000000 ∧ k (.str y) M1) ∨ ∃ i : Int, x = .int i ∧ i.natAbs.log2 < 1920 ∧ k (.str (toString i)) M1) : XE C (tFmt te) ds M k := fun F H σ s e c Q g =>
  h F H σ s e c _ fun x M1 v F1 H1 n1 r1 h1 => by
    rcases h1 with ⟨y, rfl, hl, h2⟩ | ⟨i, rfl, hl, h2⟩
    · cases r1
      exact .inl ⟨y, rfl, sz hl, g _ _ _ _ _ n1 (.str y) h2⟩
    · cases r1
      exact .inr ⟨i, rfl, hl, g _ _ _ _ _ n1 (.str _) h2⟩

/-! ### attributes -/
theorem XE.fld {C : Cfg} {ds : DS} {ta : TE} {f : Str} (h : XE C ta ds M fun x M1 => ∃ A fs d, InAt M1 x A fs ∧ Cls C.K A ∧ NoAttr C.K A f ∧ fs.lookup f = some d ∧ k d M1) : XE C (tFld C.K ta f) ds M k := fun F H σ s e c Q g =>
  h F H σ s e c _ fun x M1 v F1 H1 n1 r1 h1 => by
    obtain ⟨A, fs, d, hi, hc, hn, hl, q⟩ := h1
    obtain ⟨p, dx, gs, rfl, hp, rf⟩ := hi.get n1.st r1
    obtain ⟨w, hw, rw'⟩ := rf.lookup hl
    exact ⟨p, A, dx, gs, w, rfl, hp, hc, hn, hw, g _ _ _ _ _ n1 rw' q⟩
theorem XE.con {C : Cfg} {ds : DS} {ta : TE} {f : Str} (h : XE C ta ds M fun x M1 => ∃ A fs v u d, InAt M1 x A fs ∧ Cls C.K A ∧ Con C.K A f v u ∧ fs.lookup f = none ∧ (∀ F, Rep C.K F d v) ∧ k d M1) : XE C (tCon C.K ta f) ds M k := fun F H σ s e c Q g =>
  h F H σ s e c _ fun x M1 v F1 H1 n1 r1 h1 => by
    obtain ⟨A, fs, w, u, d, hi, hc, hn, hl, hr, q⟩ := h1
    obtain ⟨p, dx, gs, rfl, hp, rf⟩ := hi.get n1.st r1
    exact ⟨p, A, dx, gs, w, u, rfl, hp, hc, hn, rf.lookupN hl, g _ _ _ _ _ n1 (hr _) q⟩
/-! ### methods of built-in types -/
theorem XE.bm {C : Cfg} {ds : DS} {T : String} {r : V → List V → Hp → VK → Prop} {to : TE} {t : TA} (h : XE C to ds M fun x M1 => (∀ F H v, Stt C.K F H M1 → Rep C.K F x v → tyV C.K T v H) ∧ XA C t ds M1 fun xs M2 => XM C.K r x xs M2 k) : XE C (tBM C.K T r to t) ds M k := fun F H σ s e c Q g =>
  h F H σ s e c _ fun x M1 v F1 H1 n1 r1 h1 => ⟨h1.1 F1 H1 v n1.st r1, h1.2 F1 H1 σ n1.st (e.mono n1.ex) (c.next n1) _ fun xs M2 vs F2 H2 n2 r2 h2 => h2 F2 H2 v vs n2.st (r1.mono n2.ex) r2 Q ((g.next n1).next n2)⟩
theorem XE.bm0 {C : Cfg} {ds : DS} {T : String} {r : V → List V → Hp → VK → Prop} {to : TE} (h : XE C to ds M fun x M1 => (∀ F H v, Stt C.K F H M1 → Rep C.K F x v → tyV C.K T v H) ∧ XM C.K r x [] M1 k) : XE C (tBM0 C.K T r to) ds M k := fun F H σ s e c Q g =>
  h F H σ s e c _ fun x M1 v F1 H1 n1 r1 h1 => ⟨h1.1 F1 H1 v n1.st r1, h1.2 F1 H1 v [] n1.st r1 .nil Q (g.next n1)⟩
end
end DL

namespace DL
open PySem L2 PyProof.Rows

section
variable {C : Cfg} {ds : DS} {M : Mem} {k : D → Mem → Prop} {te ta tb tc : TE} {P : Post} {t u : TS}
/-! ### statements -/
theorem XS.next (h : P.nx ds M) : XS C tNext ds M P := fun F H σ s e c D f => f.nx ds M σ F H (Nxt.refl s) e h
theorem XS.brk (h : P.bk ds M) : XS C tBreak ds M P := fun F H σ s e c D f => f.bk ds M σ F H (Nxt.refl s) e h
theorem XS.cnt (h : P.ct ds M) : XS C tCont ds M P := fun F H σ s e c D f => f.ct ds M σ F H (Nxt.refl s) e h
theorem XS.seq (h : XS C t ds M { P with nx := fun ds' M' => XS C u ds' M' P }) : XS C (tSeq t u) ds M P := fun F H σ s e c D f =>
  h F H σ s e c { D with nx := u D } ⟨fun ds' M' σ' F' H' n e' q => q F' H' σ' n.st e' (c.next n) D (f.next n), f.rt, f.bk, f.ct⟩
theorem XS.drop (h : XE C te ds M fun _ M1 => P.nx ds M1) : XS C (tDrop te) ds M P := fun F H σ s e c D f =>
  h F H σ s e c _ fun x M1 v F1 H1 n1 r1 h1 => f.nx _ _ _ _ _ n1 (e.mono n1.ex) h1
theorem XS.ret (h : XE C te ds M P.rt) : XS C (tRet te) ds M P := fun F H σ s e c D f => h F H σ s e c _ f.rt
theorem XS.retN (h : P.rt .non M) : XS C tRetN ds M P := fun F H σ s e c D f => f.rt.now s .non h
theorem XS.ifs {tt : TT} (h : XT C tt ds M fun b M1 => (b = true → XS C t ds M1 P) ∧ (b = false → XS C u ds M1 P)) : XS C (tIfS tt t u) ds M P := fun F H σ s e c D f =>
  h F H σ s e c _ fun b M1 F1 H1 n1 h1 => by
    cases b with
    | true => exact h1.1 rfl F1 H1 σ n1.st (e.mono n1.ex) (c.next n1) D (f.next n1)
    | false => exact h1.2 rfl F1 H1 σ n1.st (e.mono n1.ex) (c.next n1) D (f.next n1)
/-- a target: js, the slots that it may set -/
def XG (C : Cfg) (g : TG) (x : D) (ds : DS) (M : Mem) (js : List Nat) (k : DS → Mem → Prop) : Prop :=
  ∀ F H σ v, Stt C.K F H M → EnvR C.K F ds σ → Cov C F H M → Rep C.K F x v → ∀ Q : L2.St → Hp → Prop, (∀ d M' σ' F' H', Nxt C.K F H M F' H' M' → EnvR C.K F' d σ' → σ'.length = σ.length → (∀ i, i ∉ js → σ'[i]? = σ[i]?) → k d M' → Q σ' H') → g v σ H Q
theorem XG.name {i : Nat} {x : D} {js : List Nat} {k : DS → Mem → Prop} (hi : i ∈ js) (h : k (ds.set i (some x)) M) : XG C (gName i) x ds M js k := fun F H σ v s e c r Q g =>
  g _ M _ F H (Nxt.refl s) (e.set i r) (List.length_set ..) (fun j hj => List.getElem?_set_ne fun (z : i = j) => hj (by rw [← z]; exact hi)) h
def XGs (C : Cfg) (g : TGs) (xs : List D) (ds : DS) (M : Mem) (js : List Nat) (k : DS → Mem → Prop) : Prop :=
  ∀ F H σ vs, Stt C.K F H M → EnvR C.K F ds σ → Cov C F H M → Reps C.K F xs vs → ∀ Q : L2.St → Hp → Prop, (∀ d M' σ' F' H', Nxt C.K F H M F' H' M' → EnvR C.K F' d σ' → σ'.length = σ.length → (∀ i, i ∉ js → σ'[i]? = σ[i]?) → k d M' → Q σ' H') → g vs σ H Q
theorem XGs.nil {js : List Nat} {k : DS → Mem → Prop} (h : k ds M) : XGs C gNil [] ds M js k := fun F H σ vs s e c r Q g => by
  cases r
  exact ⟨rfl, g ds M σ F H (Nxt.refl s) e rfl (fun _ _ => rfl) h⟩
theorem XGs.cons {g1 : TG} {g2 : TGs} {x : D} {xs : List D} {js : List Nat} {k : DS → Mem → Prop} (h : XG C g1 x ds M js fun ds1 M1 => XGs C g2 xs ds1 M1 js k) : XGs C (gCons g1 g2) (x :: xs) ds M js k := fun F H σ vs s e c r Q g => by
  cases r with
  | @cons _ v _ vs r1 r2 =>
    refine ⟨v, vs, rfl, h F H σ v s e c r1 _ fun d M1 σ1 F1 H1 n1 e1 l1 w1 h1 => h1 F1 H1 σ1 vs n1.st e1 (c.next n1) (r2.mono n1.ex) Q fun d2 M2 σ2 F2 H2 n2 e2 l2 w2 h2 => ?_⟩
    exact g d2 M2 σ2 F2 H2 (n1.trans n2) e2 (l2.trans l1) (fun i hi => (w2 i hi).trans (w1 i hi)) h2
theorem XG.tup {g : TGs} {n : Nat} {xs : List D} {js : List Nat} {k : DS → Mem → Prop} (hn : xs.length = n) (h : XGs C g xs ds M js k) : XG C (gTup C.K n g) (.tup xs) ds M js k := fun F H σ v s e c r Q q => by
  cases r with
  | @tup a vs _ h1 q1 => exact ⟨a, vs, rfl, ex_t s.ex h1, by rw [← q1.length]; exact hn, h F H σ vs s e c q1 Q q⟩
theorem XS.asgG {g : TG} (js : List Nat) (h : XE C te ds M fun x M1 => XG C g x ds M1 js P.nx) : XS C (tAsg te g) ds M P := fun F H σ s e c D f =>
  h F H σ s e c _ fun x M1 v F1 H1 n1 r1 h1 => h1 F1 H1 σ v n1.st (e.mono n1.ex) (c.next n1) r1 _ fun d M2 σ2 F2 H2 n2 e2 _ _ h2 => f.nx _ _ _ _ _ (n1.trans n2) e2 h2
theorem XS.asg {i : Nat} (h : XE C te ds M fun x M1 => P.nx (ds.set i (some x)) M1) : XS C (tAsg te (gName i)) ds M P := fun F H σ s e c D f =>
  h F H σ s e c _ fun x M1 v F1 H1 n1 r1 h1 => f.nx _ _ _ _ _ n1 ((e.mono n1.ex).set i r1) h1
theorem XS.par {i j : Nat} {t : TA} (h : XA C t ds M fun xs M1 => ∃ x y, xs = [x, y] ∧ P.nx ((ds.set i (some x)).set j (some y)) M1) : XS C (tPar i j t) ds M P := fun F H σ s e c D f =>
  h F H σ s e c _ fun xs M1 vs F1 H1 n1 r1 h1 => by
    obtain ⟨x, y, rfl, q⟩ := h1
    cases r1 with
    | @cons _ v _ _ r1 r2 =>
      cases r2 with
      | @cons _ w _ _ r2 r3 =>
        cases r3
        exact ⟨v, w, rfl, f.nx _ _ _ _ _ n1 (((e.mono n1.ex).set i r1).set j r2) q⟩
theorem XS.aug {i : Nat} {fn : Int → Int → Int} {a : Int} (hx : ds[i]? = some (some (.int a))) (h : XE C te ds M fun y M1 => ∃ b, y = .int b ∧ P.nx (ds.set i (some (.int (fn a b)))) M1) : XS C (tAug i te (ipI fn)) ds M P := fun F H σ s e c D f => by
  obtain ⟨v, h1, h2⟩ := e.2 i _ hx
  cases h2
  refine ⟨_, h1, h F H σ s e c _ fun y M1 v F1 H1 n1 r1 h3 => ?_⟩
  obtain ⟨b, rfl, q⟩ := h3
  cases r1
  exact ⟨a, b, rfl, rfl, f.nx _ _ _ _ _ n1 ((e.mono n1.ex).set i (.int _)) q⟩
/-- the owned list in a slot stands still from now on -/
theorem XS.fz {p : Addr} {xs : List D} {M' : Mem} (i : Nat) (hi : ds[i]? = some (some (.raw p))) (hd : Del M p (.lst xs) M') (h : XS C t (ds.set i (some (.lst xs))) M' P) : XS C t ds M P := fun F H σ s e c D f => by
  obtain ⟨F', n, r⟩ := frz_lst s hd
  refine h F' H σ n.st ⟨by rw [List.length_set]; exact e.1, fun j d q => ?_⟩ (c.next n) D (f.next n)
  by_cases z : i = j
  · subst z
    have hl : i < ds.length := (List.getElem?_eq_some_iff.mp hi).1
    rw [List.getElem?_set_self hl] at q
    cases q
    obtain ⟨v, h1, h2⟩ := e.2 i _ hi
    cases h2
    exact ⟨_, h1, r⟩
  · rw [List.getElem?_set_ne z] at q
    exact (e.mono n.ex).2 j d q
/-- .. and an owned instance -/
theorem XS.fzI {p A : Addr} {fs : List (Str × D)} {M' : Mem} (i : Nat) (hi : ds[i]? = some (some (.raw p))) (hd : Del M p (.ins A fs) M') (h : XS C t (ds.set i (some (.ins A fs))) M' P) : XS C t ds M P := fun F H σ s e c D f => by
  obtain ⟨F', n, r⟩ := frz_ins s hd
  refine h F' H σ n.st ⟨by rw [List.length_set]; exact e.1, fun j d q => ?_⟩ (c.next n) D (f.next n)
  by_cases z : i = j
  · subst z
    have hl : i < ds.length := (List.getElem?_eq_some_iff.mp hi).1
    rw [List.getElem?_set_self hl] at q
    cases q
    obtain ⟨v, h1, h2⟩ := e.2 i _ hi
    cases h2
    exact ⟨_, h1, r⟩
  · rw [List.getElem?_set_ne z] at q
    exact (e.mono n.ex).2 j d q
/-- what is read in a slot, an owned list, stands still from now on (the slot's own word stays) -/
theorem XE.varF {i : Nat} {p : Addr} {xs : List D} {M' : Mem} (hi : ds[i]? = some (some (.raw p))) (hd : Del M p (.lst xs) M') (h : k (.lst xs) M') : XE C (tVar i) ds M k := fun F H σ s e c Q g => by
  obtain ⟨F', n, r⟩ := frz_lst s hd
  obtain ⟨v, h1, h2⟩ := e.2 i _ hi
  cases h2
  exact ⟨_, h1, g _ _ _ _ _ n r h⟩
theorem XE.varFI {i : Nat} {p A : Addr} {fs : List (Str × D)} {M' : Mem} (hi : ds[i]? = some (some (.raw p))) (hd : Del M p (.ins A fs) M') (h : k (.ins A fs) M') : XE C (tVar i) ds M k := fun F H σ s e c Q g => by
  obtain ⟨F', n, r⟩ := frz_ins s hd
  obtain ⟨v, h1, h2⟩ := e.2 i _ hi
  cases h2
  exact ⟨_, h1, g _ _ _ _ _ n r h⟩
/-- self.f = e -/
theorem RepF.put {K : PySem.W.Frag} {F : Hp} {f : Str} {d : D} {v : V} (r : Rep K F d v) : ∀ {fs : List (Str × D)} {gs : List (Str × V)}, RepF K F fs gs → RepF K F (putD f d fs) (putF f v gs)
  | _, _, .nil => .cons r .nil
  | (n, d0) :: fs, (_, v0) :: gs, .cons h q => by
    show RepF K F (if n = f then (n, d) :: fs else (n, d0) :: putD f d fs) (if n = f then (n, v) :: gs else (n, v0) :: putF f v gs)
    by_cases z : n = f
    · rw [if_pos z, if_pos z]
      exact .cons r q
    · rw [if_neg z, if_neg z]
      exact .cons h (RepF.put r q)
theorem XS.fld {f : Str} (h : XE C te ds M fun y M1 => XE C ta ds M1 fun x M2 => ∃ p A fs M3, x = .raw p ∧ Up M2 p (.ins A fs) (.ins A (putD f y fs)) M3 ∧ Cls C.K A ∧ NoAttr C.K A f ∧ fs.length < 1000 ∧ P.nx ds M3) : XS C (sFld C.K ta te f) ds M P := fun F H σ s e c D g =>
  h F H σ s e c _ fun y M1 v F1 H1 n1 r1 h1 => h1 F1 H1 σ n1.st (e.mono n1.ex) (c.next n1) _ fun x M2 w F2 H2 n2 r2 h2 => by
    obtain ⟨p, A, fs, M3, rfl, hu, hc, hn, hl, q⟩ := h2
    cases r2
    obtain ⟨_, o, hp, dx, gs, rfl, rf⟩ := n2.st.at hu.at
    have n3 := Nxt.put n2.st (o := .ins A dx (putF f v gs)) hu ⟨dx, _, rfl, rf.put (r1.mono n2.ex)⟩
    exact ⟨p, A, dx, gs, rfl, hp, hc, hn, by rw [← rf.length]; exact hl, g.nx _ _ _ _ _ ((n1.trans n2).trans n3) (e.mono ((n1.trans n2).trans n3).ex) q⟩

/-! ### methods of lists -/
variable {K : PySem.W.Frag}
theorem ty_lst {x : D} {xs : List D} (h : LsAt M x xs) : ∀ F H v, Stt K F H M → Rep K F x v → tyV K "list" v H := fun F H v s r => by
  obtain ⟨p, vs, rfl, h1, _⟩ := h.get s r
  exact .inl ⟨rfl, vs, SqL.of h1⟩
theorem ty_dct {x : D} {es : List (Key × D)} (h : DcAt M x es) : ∀ F H v, Stt K F H M → Rep K F x v → tyV K "dict" v H := fun F H v s r => by
  obtain ⟨p, vs, rfl, h1, _⟩ := h.get s r
  exact .inr (.inr (.inl ⟨rfl, .inl ⟨vs, h1⟩⟩))
theorem ty_str {z : Str} : ∀ F H v, Stt K F H M → Rep K F (.str z) v → tyV K "str" v H := fun F H v s r => by
  cases r
  rfl
theorem XM.append {p : Addr} {xs : List D} {y : D} {M' : Mem} (hu : Up M p (.lst xs) (.lst (xs ++ [y])) M') (hl : xs.length < 16000000) (h : k .non M') : XM K rAppend (.raw p) [y] M k := fun F H v vs s r1 r2 Q g => by
  cases r1
  cases r2 with
  | @cons _ w _ _ r2 r3 =>
    cases r3
    obtain ⟨_, o, hp, us, rfl, q⟩ := s.at hu.at
    have n := Nxt.put s (o := .lst (us ++ [w])) hu ⟨_, rfl, q.append (.cons r2 .nil)⟩
    exact ⟨p, us, w, rfl, rfl, hp, by rw [← q.length]; exact sz1 hl, g _ _ _ _ _ n .non h⟩
def rInsert : V → List V → Hp → VK → Prop := fun x vs H Q => ∃ (l : Addr) (xs : List V) (i : Int) (y : V), x = .ref l ∧ vs = [.int i, y] ∧ H l = some (.lst xs) ∧ xs.length < sizeLine ∧ 0 ≤ i ∧ i < 2 ^ 63 ∧ Q .non (upd H l (.lst (xs.take i.toNat ++ [y] ++ xs.drop i.toNat)))
theorem mt_ins {X : Cx} : MtR X "list.insert" rInsert := mt_insert
theorem XM.insert {p : Addr} {xs : List D} {y : D} {i : Int} {M' : Mem} (hu : Up M p (.lst xs) (.lst (xs.take i.toNat ++ [y] ++ xs.drop i.toNat)) M') (hl : xs.length < 16000000) (h0 : 0 ≤ i) (h1 : i < 2 ^ 63) (h : k .non M') : XM K rInsert (.raw p) [.int i, y] M k := fun F H v vs s r1 r2 Q g => by
  cases r1
  cases r2 with
  | cons r2 r3 =>
    cases r2
    cases r3 with
    | @cons _ w _ _ r3 r4 =>
      cases r4
      obtain ⟨_, o, hp, us, rfl, q⟩ := s.at hu.at
      have n := Nxt.put s (o := .lst (us.take i.toNat ++ [w] ++ us.drop i.toNat)) hu ⟨_, rfl, ((q.take _).append (.cons r3 .nil)).append (q.drop _)⟩
      exact ⟨p, us, i, w, rfl, rfl, hp, by rw [← q.length]; exact sz1 hl, h0, h1, g _ _ _ _ _ n .non h⟩
theorem XM.popAt {p : Addr} {xs : List D} {y : D} {i : Int} {j : Nat} {M' : Mem} (hu : Up M p (.lst xs) (.lst (xs.eraseIdx j)) M') (h0 : -(2 ^ 63) ≤ i) (h1 : i < 2 ^ 63) (hj : seqIndex? i xs.length = some j) (hy : xs[j]? = some y) (h : k y M') : XM K rPopAt (.raw p) [.int i] M k := fun F H v vs s r1 r2 Q g => by
  cases r1
  cases r2 with
  | cons r2 r3 =>
    cases r2
    cases r3
    obtain ⟨_, o, hp, us, rfl, q⟩ := s.at hu.at
    obtain ⟨w, hw, rw'⟩ := q.get hy
    have n := Nxt.put s (o := .lst (us.eraseIdx j)) hu ⟨_, rfl, q.eraseIdx _⟩
    exact ⟨p, us, i, j, w, rfl, rfl, hp, h0, h1, by rw [← q.length]; exact hj, hw, g _ _ _ _ _ n (rw'.mono n.ex) h⟩
theorem Reps.dropLast {F : Hp} {xs : List D} {vs : List V} (r : Reps K F xs vs) : Reps K F xs.dropLast vs.dropLast := by
  rw [List.dropLast_eq_take, List.dropLast_eq_take, r.length]
  exact r.take _
theorem XM.pop {p : Addr} {xs : List D} {y : D} {M' : Mem} (hu : Up M p (.lst xs) (.lst xs.dropLast) M') (hy : xs[xs.length - 1]? = some y) (h : k y M') : XM K rPop (.raw p) [] M k := fun F H v vs s r1 r2 Q g => by
  cases r1
  cases r2
  obtain ⟨_, o, hp, us, rfl, q⟩ := s.at hu.at
  obtain ⟨w, hw, rw'⟩ := q.get hy
  have n := Nxt.put s (o := .lst us.dropLast) hu ⟨_, rfl, q.dropLast⟩
  exact ⟨p, us, w, rfl, rfl, hp, by rw [← q.length]; exact hw, g _ _ _ _ _ n (rw'.mono n.ex) h⟩

/-! ### what is walked -/
/-- J walks the items xs, in any later state -/
def Items (K : PySem.W.Frag) (F0 : Hp) (J : It) (xs : List D) : Prop :=
  ∀ i F H M, Ex F0 F → Stt K F H M → (∀ x, xs[i]? = some x → J.go i H ∧ ∀ v H2, J.yld i H v H2 → ∃ F2, Nxt K F H M F2 H2 M ∧ Rep K F2 x v) ∧ (xs.length ≤ i → J.stop i H)
def XI (C : Cfg) (wi : TI) (ds : DS) (M : Mem) (k : List D → Mem → Prop) : Prop :=
  ∀ F H σ, Stt C.K F H M → EnvR C.K F ds σ → Cov C F H M → ∀ R : It → Hp → Prop, (∀ xs M' J F' H', Nxt C.K F H M F' H' M' → Items C.K F' J xs → k xs M' → R J H') → wi σ H R
theorem items_lst {F0 : Hp} {a : Addr} {xs : List D} {vs : List V} (h : SqL K F0 a vs) (r : Reps K F0 xs vs) : Items K F0 (Itl K a) xs := fun i F H M e s => by
  have hq : SqL K H a vs := ex_l (e.trans s.ex) h
  refine ⟨fun x hx => ?_, fun hl => ⟨vs, hq, by rw [← r.length]; exact hl⟩⟩
  obtain ⟨v, hv, rv⟩ := r.get hx
  refine ⟨⟨vs, v, hq, hv⟩, fun w H2 y => ?_⟩
  obtain ⟨rfl, y⟩ := y
  have e2 := y vs hq
  rw [hv] at e2
  cases e2
  exact ⟨F, Nxt.refl s, rv.mono e⟩
theorem items_tup {F0 : Hp} {a : Addr} {xs : List D} {vs : List V} (h : SqT K F0 a vs) (r : Reps K F0 xs vs) : Items K F0 (Itt K a) xs := fun i F H M e s => by
  have hq : SqT K H a vs := ex_t (e.trans s.ex) h
  refine ⟨fun x hx => ?_, fun hl => ⟨vs, hq, by rw [← r.length]; exact hl⟩⟩
  obtain ⟨v, hv, rv⟩ := r.get hx
  refine ⟨⟨vs, v, hq, hv⟩, fun w H2 y => ?_⟩
  obtain ⟨rfl, y⟩ := y
  have e2 := y vs hq
  rw [hv] at e2
  cases e2
  exact ⟨F, Nxt.refl s, rv.mono e⟩
def rngD (lo : Int) (n : Nat) : List D := (List.range n).map fun i => D.int (lo + (i : Nat))
theorem rngD_len (lo : Int) (n : Nat) : (rngD lo n).length = n := by simp [rngD]
theorem rngD_get (lo : Int) (n i : Nat) : (rngD lo n)[i]? = if i < n then some (.int (lo + (i : Nat))) else none := by
  unfold rngD
  rw [List.getElem?_map]
  by_cases h : i < n
  · rw [if_pos h, List.getElem?_range h]
    rfl
  · rw [if_neg h, List.getElem?_eq_none (by simpa using h)]
    rfl
theorem items_rng {F0 : Hp} (lo : Int) (n : Nat) : Items K F0 (Itr lo n) (rngD lo n) := fun i F H M e s => by
  refine ⟨fun x hx => ?_, fun hl => by rw [rngD_len] at hl; exact hl⟩
  rw [rngD_get] at hx
  split at hx
  · cases hx
    refine ⟨by assumption, fun w H2 y => ?_⟩
    obtain ⟨rfl, rfl⟩ := y
    exact ⟨F, Nxt.refl s, .int _⟩
  · cases hx
variable {kl : List D → Mem → Prop}
theorem XI.lst {tl : TE} (h : XE C tl ds M fun x M1 => ∃ xs, (x = .lst xs ∨ x = .ro xs) ∧ kl xs M1) : XI C (iList C.K tl) ds M kl := fun F H σ s e c R g =>
  h F H σ s e c _ fun x M1 v F1 H1 n1 r1 h1 => by
    obtain ⟨xs, rfl | rfl, q⟩ := h1
    · cases r1 with
      | @lst a vs _ h2 q2 => exact ⟨a, rfl, ⟨vs, SqL.of (n1.st.ex _ _ h2)⟩, g xs M1 _ F1 H1 n1 (items_lst (SqL.of h2) q2) q⟩
    · cases r1 with
      | @ro a vs _ h2 q2 => exact ⟨a, rfl, ⟨vs, ex_l n1.st.ex h2⟩, g xs M1 _ F1 H1 n1 (items_lst h2 q2) q⟩
theorem XI.tup {tl : TE} (h : XE C tl ds M fun x M1 => ∃ xs, x = .tup xs ∧ kl xs M1) : XI C (iTup C.K tl) ds M kl := fun F H σ s e c R g =>
  h F H σ s e c _ fun x M1 v F1 H1 n1 r1 h1 => by
    obtain ⟨xs, rfl, q⟩ := h1
    cases r1 with
    | @tup a vs _ h2 q2 => exact ⟨a, rfl, ⟨vs, ex_t n1.st.ex h2⟩, g xs M1 _ F1 H1 n1 (items_tup h2 q2) q⟩
theorem XI.rng1 {t : TA} (h : XA C t ds M fun xs M1 => ∃ j : Int, xs = [.int j] ∧ -(2 ^ 62) ≤ j ∧ j < 2 ^ 62 ∧ kl (rngD 0 j.toNat) M1) : XI C (iRng1 t) ds M kl := fun F H σ s e c R g =>
  h F H σ s e c _ fun xs M1 vs F1 H1 n1 r1 h1 => by
    obtain ⟨j, rfl, h2, h3, q⟩ := h1
    cases r1 with
    | cons r1 r2 =>
      cases r2
      cases r1
      exact ⟨j, rfl, h2, h3, g _ M1 _ F1 H1 n1 (items_rng 0 _) q⟩
theorem XI.rng2 {t : TA} (h : XA C t ds M fun xs M1 => ∃ i j : Int, xs = [.int i, .int j] ∧ (-(2 ^ 62) ≤ i ∧ i < 2 ^ 62 ∧ -(2 ^ 62) ≤ j ∧ j < 2 ^ 62) ∧ kl (rngD i (j - i).toNat) M1) : XI C (iRng2 t) ds M kl := fun F H σ s e c R g =>
  h F H σ s e c _ fun xs M1 vs F1 H1 n1 r1 h1 => by
    obtain ⟨i, j, rfl, h2, q⟩ := h1
    cases r1 with
    | cons r1 r2 =>
      cases r2 with
      | cons r2 r3 =>
        cases r3
        cases r2
        cases r1
        exact ⟨i, j, rfl, h2, g _ M1 _ F1 H1 n1 (items_rng i _) q⟩

/-! ### for -/
theorem XS.for {wi : TI} {g : TG} {tb : TS} (js : List Nat) (h : XI C wi ds M fun xs M1 => ∃ I : Nat → DS → Mem → Prop, I 0 ds M1 ∧
    (∀ i x ds' M', xs[i]? = some x → I i ds' M' → XG C g x ds' M' js fun ds2 M2 => XS C tb ds2 M2 { P with nx := I (i + 1), ct := I (i + 1), bk := P.nx }) ∧
    ∀ ds' M', I xs.length ds' M' → P.nx ds' M') : XS C (tFor wi g tb) ds M P := fun F H σ s e c D f =>
  h F H σ s e c _ fun xs M1 J F1 H1 n1 it h1 => by
    obtain ⟨I, h0, hs, hd⟩ := h1
    refine ⟨fun i m σ' H' => m + i = xs.length ∧ i ≤ xs.length ∧ ∃ ds' M' F', Nxt C.K F H M F' H' M' ∧ Ex F1 F' ∧ EnvR C.K F' ds' σ' ∧ I i ds' M', ⟨xs.length, rfl, Nat.zero_le _, ds, M1, F1, n1, Ex.refl _, e.mono n1.ex, h0⟩, fun i m σ' H' w => ?_⟩
    obtain ⟨hm, hi, ds', M', F', n, ex, e', hI⟩ := w
    by_cases hlt : i < xs.length
    · have hx : xs[i]? = some xs[i] := List.getElem?_eq_getElem hlt
      obtain ⟨go, yl⟩ := (it i F' H' M' ex n.st).1 _ hx
      refine .inr ⟨go, fun σ2 H2 => ∃ ds2 M2 F2, Nxt C.K F H M F2 H2 M2 ∧ Ex F1 F2 ∧ EnvR C.K F2 ds2 σ2 ∧ I (i + 1) ds2 M2, fun σ2 H2 w => ⟨m - 1, by omega, by omega, hlt, w⟩, fun v H2 y => ?_⟩
      obtain ⟨F2, n2, r2⟩ := yl v H2 y
      refine hs i _ ds' M' hx hI F2 H2 σ' v n2.st (e'.mono n2.ex) (c.next (n.trans n2)) r2 _ fun ds3 M3 σ3 F3 H3 n3 e3 _ _ h3 => ?_
      have n123 := (n.trans n2).trans n3
      have ex3 : Ex F1 F3 := (ex.trans n2.ex).trans n3.ex
      refine h3 F3 H3 σ3 n3.st e3 (c.next n123) _ ⟨fun ds4 M4 σ4 F4 H4 n4 e4 h4 => ⟨ds4, M4, F4, n123.trans n4, ex3.trans n4.ex, e4, h4⟩, f.rt.next n123, fun ds4 M4 σ4 F4 H4 n4 e4 h4 => f.nx _ _ _ _ _ (n123.trans n4) e4 h4, fun ds4 M4 σ4 F4 H4 n4 e4 h4 => ⟨ds4, M4, F4, n123.trans n4, ex3.trans n4.ex, e4, h4⟩⟩
    · have hi' : i = xs.length := by omega
      subst hi'
      exact .inl ⟨(it _ F' H' M' ex n.st).2 (Nat.le_refl _), f.nx _ _ _ _ _ n e' (hd _ _ hI)⟩
/-! ### while -/
theorem XS.while {tt : TT} {tb : TS} (I : Nat → DS → Mem → Prop) (m0 : Nat) (h0 : I m0 ds M)
    (hs : ∀ m ds' M', I m ds' M' → XT C tt ds' M' fun b M1 => (b = true → XS C tb ds' M1 { P with nx := fun ds2 M2 => ∃ m', m' < m ∧ I m' ds2 M2, ct := fun ds2 M2 => ∃ m', m' < m ∧ I m' ds2 M2, bk := P.nx }) ∧ (b = false → P.nx ds' M1)) : XS C (tWhile tt tb) ds M P := fun F H σ s e c D f => by
  refine ⟨fun m σ' H' => ∃ ds' M' F', Nxt C.K F H M F' H' M' ∧ EnvR C.K F' ds' σ' ∧ I m ds' M', ⟨m0, ds, M, F, Nxt.refl s, e, h0⟩, fun m σ' H' w => ?_⟩
  obtain ⟨ds', M', F', n, e', hI⟩ := w
  refine hs m ds' M' hI F' H' σ' n.st e' (c.next n) _ fun b M1 F1 H1 n1 h1 => ?_
  have n2 := n.trans n1
  cases b with
  | true =>
    refine ⟨fun σ2 H2 => ∃ m', m' < m ∧ ∃ ds2 M2 F2, Nxt C.K F H M F2 H2 M2 ∧ EnvR C.K F2 ds2 σ2 ∧ I m' ds2 M2, fun σ2 H2 w => w, ?_⟩
    refine h1.1 rfl F1 H1 σ' n1.st (e'.mono n1.ex) (c.next n2) _ ⟨fun ds4 M4 σ4 F4 H4 n4 e4 h4 => ?_, f.rt.next n2, fun ds4 M4 σ4 F4 H4 n4 e4 h4 => f.nx _ _ _ _ _ (n2.trans n4) e4 h4, fun ds4 M4 σ4 F4 H4 n4 e4 h4 => ?_⟩
    · obtain ⟨m', hm, hI'⟩ := h4
      exact ⟨m', hm, ds4, M4, F4, n2.trans n4, e4, hI'⟩
    · obtain ⟨m', hm, hI'⟩ := h4
      exact ⟨m', hm, ds4, M4, F4, n2.trans n4, e4, hI'⟩
  | false => exact f.nx _ _ _ _ _ n2 (e'.mono n1.ex) (h1.2 rfl)

/-! ### comprehensions -/
theorem wipe_get (σ : L2.St) : ∀ (vs : List Nat) (i : Nat), (L2.wipe σ vs)[i]? = if i ∈ vs then (if i < σ.length then some none else none) else σ[i]?
  | [], i => by simp [L2.wipe]
  | v :: vs, i => by
    show ((L2.wipe σ vs).set v none)[i]? = _
    by_cases h : v = i
    · subst h
      rw [if_pos List.mem_cons_self]
      by_cases hl : v < σ.length
      · rw [if_pos hl, List.getElem?_set_self (by rw [L2.wipe_length]; exact hl)]
      · rw [if_neg hl, List.getElem?_eq_none (by rw [List.length_set, L2.wipe_length]; omega)]
    · rw [List.getElem?_set_ne h, wipe_get σ vs i]
      by_cases hm : i ∈ vs
      · rw [if_pos hm, if_pos (List.mem_cons_of_mem _ hm)]
      · rw [if_neg hm, if_neg fun z => (List.mem_cons.mp z).elim (fun e => h e.symm) hm]
theorem wipe_same {σ σ' : L2.St} {vs : List Nat} (hl : σ'.length = (L2.wipe σ vs).length) (h : ∀ i, i ∉ vs → σ'[i]? = (L2.wipe σ vs)[i]?) : L2.wipe σ' vs = L2.wipe σ vs := by
  have hl' : σ'.length = σ.length := by rw [hl, L2.wipe_length]
  refine List.ext_getElem? fun i => ?_
  rw [wipe_get, wipe_get, hl']
  by_cases hm : i ∈ vs
  · rw [if_pos hm, if_pos hm]
  · rw [if_neg hm, if_neg hm, h i hm, wipe_get, if_neg hm]
/-- within a comprehension nothing is let out -/
abbrev Cfg.nox (C : Cfg) : Cfg := ⟨C.K, fun _ _ _ _ => False, fun _ _ _ _ => False⟩
theorem Cov.nox {C : Cfg} {F H : Hp} {M : Mem} : Cov C.nox F H M := fun _ _ _ _ _ _ _ _ _ _ h _ => h.elim
theorem XE.lcG {wi : TI} {g : TG} {tt : TT} {vs : List Nat} (own : Bool) (h : XI C wi ds M fun xs M1 => ∃ I : Nat → List D → Mem → Prop, I 0 [] M1 ∧
    (∀ i x acc M', xs[i]? = some x → I i acc M' → XG C.nox g x (dwipe ds vs) M' vs fun ds2 M2 => XT C.nox tt ds2 M2 fun b M3 => (b = true → XE C.nox te ds2 M3 fun y M4 => acc.length < 16000000 ∧ I (i + 1) (acc ++ [y]) M4) ∧ (b = false → I (i + 1) acc M3)) ∧
    ∀ acc M', I xs.length acc M' → if own = true then ∀ p, p ∉ dom M' → k (.raw p) ((p, .lst acc) :: M') else k (.lst acc) M') : XE C (tLc wi g tt te vs) ds M k := fun F H σ s e c Q gq =>
  h F H σ s e c _ fun xs M1 J F1 H1 n1 it h1 => by
    obtain ⟨I, h0, hs, hd⟩ := h1
    intro L hL
    have nL := Nxt.newM n1.st (o := .lst []) (m := .lst []) hL ⟨[], rfl, .nil⟩
    refine ⟨fun i m H' => m + i = xs.length ∧ i ≤ xs.length ∧ ∃ acc M' F', Nxt C.K F H M F' H' ((L, .lst acc) :: M') ∧ Ex F1 F' ∧ I i acc M', ⟨xs.length, rfl, Nat.zero_le _, [], M1, F1, n1.trans nL, Ex.refl _, h0⟩, fun i m H' w => ?_⟩
    obtain ⟨hm, hi, acc, M', F', n, ex, hI⟩ := w
    have sM : Stt C.K F' H' M' := (show Stt C.K F' H' ([(L, MO.lst acc)] ++ M') from n.st).part
    by_cases hlt : i < xs.length
    · have hx : xs[i]? = some xs[i] := List.getElem?_eq_getElem hlt
      obtain ⟨go, yl⟩ := (it i F' H' M' ex sM).1 _ hx
      refine .inr ⟨go, fun H2 => ∃ acc M2 F2, Nxt C.K F H M F2 H2 ((L, .lst acc) :: M2) ∧ Ex F1 F2 ∧ I (i + 1) acc M2, fun H2 w => ⟨m - 1, by omega, by omega, hlt, w⟩, fun v H2 y => ?_⟩
      obtain ⟨F2, n2, r2⟩ := yl v H2 y
      have lift : ∀ {Fb Hb : Hp} {Mb : Mem}, Nxt C.K F' H' M' Fb Hb Mb → Nxt C.K F H M Fb Hb ((L, .lst acc) :: Mb) := fun na => n.trans (Nxt.whole (Mr := [(L, MO.lst acc)]) n.st na)
      refine hs i _ acc M' hx hI F2 H2 _ v n2.st (((e.mono n.ex).mono n2.ex).wipe vs) Cov.nox r2 _ fun d3 M3 σ3 F3 H3 n3 e3 l3 w3 h3 => ?_
      have n23 := n2.trans n3
      refine ⟨wipe_same l3 w3, h3 F3 H3 σ3 n3.st e3 Cov.nox _ fun b M4 F4 H4 n4 h4 => ?_⟩
      have n24 := n23.trans n4
      cases b with
      | true =>
        show te σ3 H4 _
        refine h4.1 rfl F4 H4 σ3 n4.st (e3.mono n4.ex) Cov.nox _ fun z M5 vz F5 H5 n5 r5 h5 => ?_
        have n25 := n24.trans n5
        have N := lift n25
        obtain ⟨_, o, hp, us, rfl, q⟩ := N.st.at At.hd
        have np := Nxt.put N.st (o := .lst (us ++ [vz])) (m' := .lst (acc ++ [z])) Up.hd ⟨_, rfl, q.append (.cons r5 .nil)⟩
        exact ⟨us, hp, by rw [← q.length]; exact sz1 h5.1, acc ++ [z], M5, F5, N.trans np, ex.trans n25.ex, h5.2⟩
      | false => exact ⟨acc, M4, F4, lift n24, ex.trans n24.ex, h4.2 rfl⟩
    · have hi' : i = xs.length := by omega
      subst hi'
      refine .inl ⟨(it _ F' H' M' ex sM).2 (Nat.le_refl _), ?_⟩
      have q := hd acc M' hI
      cases own with
      | true =>
        have q' : ∀ p, p ∉ dom M' → k (.raw p) ((p, .lst acc) :: M') := q
        exact gq _ _ _ _ _ n (.raw L) (q' L (List.nodup_cons.mp n.st.nd).1)
      | false =>
        obtain ⟨F2, n2, r2⟩ := frz_lst n.st Del.hd
        exact gq _ _ _ _ _ (n.trans n2) r2 q
/-- a comprehension whose parts leave what is owned as it is -/
theorem XE.lc {wi : TI} {g : TG} {tt : TT} {vs : List Nat} (f : D → Option D) (h : XI C wi ds M fun xs M1 => xs.length ≤ 16000000 ∧
    (∀ x, x ∈ xs → XG C.nox g x (dwipe ds vs) M1 vs fun ds2 M2 => XT C.nox tt ds2 M2 fun b M3 => (b = true → XE C.nox te ds2 M3 fun y M4 => f x = some y ∧ M4 = M1) ∧ (b = false → f x = none ∧ M3 = M1)) ∧
    k (.lst (xs.filterMap f)) M1) : XE C (tLc wi g tt te vs) ds M k := XE.lcG false fun F H σ s e c R gR => h F H σ s e c R fun xs M1 J F1 H1 n1 it h1 => by
  obtain ⟨hl, hs, hk⟩ := h1
  refine gR xs M1 J F1 H1 n1 it ⟨fun i acc M' => acc = (xs.take i).filterMap f ∧ acc.length ≤ i ∧ M' = M1, ⟨by simp, Nat.zero_le _, rfl⟩, fun i x acc M' hx hI => ?_, fun acc M' hI => ?_⟩
  · obtain ⟨rfl, hal, rfl⟩ := hI
    have hi : i < xs.length := (List.getElem?_eq_some_iff.mp hx).1
    have ht : xs.take (i + 1) = xs.take i ++ [x] := by rw [List.take_add_one, hx]; rfl
    refine fun F H σ v s e c r Q g' => hs x (List.mem_of_getElem? hx) F H σ v s e c r Q fun d M2 σ2 F2 H2 n2 e2 l2 w2 h2 => g' d M2 σ2 F2 H2 n2 e2 l2 w2 fun Fa Ha σa sa ea ca Qa ga => h2 Fa Ha σa sa ea ca Qa fun b M3 F3 H3 n3 h3 => ga b M3 F3 H3 n3 ⟨fun hb => ?_, fun hb => ?_⟩
    · refine fun Fb Hb σb sb eb cb Qb gb => h3.1 hb Fb Hb σb sb eb cb Qb fun y M4 vy F4 H4 n4 r4 h4 => gb y M4 vy F4 H4 n4 r4 ⟨by omega, ?_, ?_, h4.2⟩
      · rw [ht, List.filterMap_append, List.filterMap_cons, h4.1]
        rfl
      · rw [List.length_append]
        exact Nat.add_le_add_right hal 1
    · obtain ⟨h4, h5⟩ := h3.2 hb
      refine ⟨?_, by omega, h5⟩
      rw [ht, List.filterMap_append, List.filterMap_cons, h4]
      simp
  · obtain ⟨rfl, _, rfl⟩ := hI
    show k _ _
    rw [List.take_length]
    exact hk
def PTs.one : True := trivial
theorem XT.yes {kt : Bool → Mem → Prop} (h : kt true M) : XT C (fun _ H Q => Q true H) ds M kt := fun F H σ s e c Q g => g true M F H (Nxt.refl s) h
end
end DL

namespace DL
open PySem L2 PyProof.Rows

/-! ### promises -/
abbrev DSp := List D → Mem → (D → Mem → Prop) → (Value → List (Str × D) → Mem → Prop) → Prop
def spD (K : PySem.W.Frag) (n : Nat) (sp : DSp) : Sp := fun vs H Q E => ∃ F M ds, Stt K F H M ∧ Reps K F ds vs ∧ ds.length = n ∧
  sp ds M (fun r M' => ∀ v F' H', Nxt K F H M F' H' M' → Rep K F' r v → Q v H') (fun cls fs M' => ∀ d F' H', Nxt K F H M F' H' M' → ExD K F' H' d fs → E cls d H')
/-- of a def that leaves all as it is -/
abbrev PSp := List D → (D → Prop) → (Value → List (Str × D) → Prop) → Prop
def pur (p : PSp) : DSp := fun ds M k x => M = [] ∧ p ds (fun r => k r []) (fun c fs => x c fs [])
theorem spD_len {K : PySem.W.Frag} {n : Nat} {sp : DSp} : ∀ vs H Q E, spD K n sp vs H Q E → vs.length = n := fun vs H Q E ⟨F, M, ds, s, r, hl, h⟩ => r.length.symm.trans hl
abbrev cfg (K : PySem.W.Frag) (E : XK) (x : Value → List (Str × D) → Mem → Prop) : Cfg := ⟨K, fun _ => E, fun _ => x⟩
section
variable {P : Program} {w : World} {K : PySem.W.Frag} {mg : Str → Option Value} {base : Heap}
theorem fn_ok {x qual : Str} {st : Stmt} {f : Addr} {fd : FuncData} {N ps : List Str} {k n : Nat} {sp : DSp} (F : Fun K x qual st f fd) (S : FnScope N ps (defScope st)) (hn : ps.length = n)
    (body : ∀ (cdv : Value) (A : Around) (outer : List Env) (s : Shared) (H : Hp) (E : XK), Room k (A.deeper (envOfC qual (defScope st) s.heap.objs.size f cdv)) →
      ∃ t, PSs (cxOf (L2.CX P w) P w K mg base N qual (defScope st) f cdv A outer s H E) (defBody st) t ∧
        ∀ ds M kk xx, ds.length = n → sp ds M kk xx → XS (cfg K E xx) t (dstart N ds) M { nx := fun _ M' => kk .non M', rt := kk }) :
    FnOk P w K mg base (L2.CX P w) (k + 1) f fd ps (spD K n sp) := by
  refine F.okX S (fun vs H Q E h => (spD_len vs H Q E h).trans hn.symm) fun cdv A outer s H vs Q E hr h => ?_
  obtain ⟨Fz, M, ds, st, r, hl, h⟩ := h
  obtain ⟨t, ht, hx⟩ := body cdv A outer s H E hr
  refine ⟨t, ht, hx ds M _ _ hl h Fz H _ st (EnvR.begun r) (fun ds0 σ0 cls fs M' F' H' d n _ q ex => q d F' H' n ex) _ ⟨?_, ?_, ?_, ?_⟩⟩
  · exact fun ds' M' σ' F' H' n e q => q .non F' H' n .non
  · exact fun d M' v F' H' n r q => q v F' H' n r
  · exact fun ds' M' σ' F' H' n e q => False.elim q
  · exact fun ds' M' σ' F' H' n e q => False.elim q
end

section
variable {C : Cfg} {ds : DS} {M : Mem} {k : D → Mem → Prop} {te ta tb tc : TE} {P : Post} {t : TA} {n : Nat} {sp : DSp} {p : PSp} {dvs : List V} {E : XK}
/-- the promise, for a part Mc of what is owned -/
theorem spD_use {K : PySem.W.Frag} {F H : Hp} {Mr Mc : Mem} {xs : List D} {vs : List V} {Q : VK} {E : XK} {k : D → Mem → Prop} {x : Value → List (Str × D) → Mem → Prop} (s : Stt K F H (Mr ++ Mc)) (r : Reps K F xs vs) (hl : xs.length = n)
    (h : sp xs Mc (fun r M' => k r (Mr ++ M')) (fun cls fs M' => x cls fs (Mr ++ M'))) (g : Go K F H (Mr ++ Mc) k Q) (c : ∀ cls fs M' d F' H', Nxt K F H (Mr ++ Mc) F' H' M' → x cls fs M' → ExD K F' H' d fs → E cls d H')
    (mono : ∀ (k k' : D → Mem → Prop) (x x' : Value → List (Str × D) → Mem → Prop), (∀ r M', k r M' → k' r M') → (∀ c f M', x c f M' → x' c f M') → sp xs Mc k x → sp xs Mc k' x') : spD K n sp vs H Q E :=
  ⟨F, Mc, xs, s.part, r, hl, mono _ _ _ _ (fun r M' q v F' H' n rr => g r (Mr ++ M') v F' H' (Nxt.whole s n) rr q) (fun cls fs M' q d F' H' n ex => c cls fs (Mr ++ M') d F' H' (Nxt.whole s n) q ex) h⟩
/-- a promise that may be weakened at its end -/
def MonoD (sp : DSp) : Prop := ∀ xs M (k k' : D → Mem → Prop) (x x' : Value → List (Str × D) → Mem → Prop), (∀ r M', k r M' → k' r M') → (∀ c f M', x c f M' → x' c f M') → sp xs M k x → sp xs M k' x'
def MonoP (p : PSp) : Prop := ∀ xs (k k' : D → Prop) (x x' : Value → List (Str × D) → Prop), (∀ r, k r → k' r) → (∀ c f, x c f → x' c f) → p xs k x → p xs k' x'
theorem MonoP.pur (h : MonoP p) : MonoD (pur p) := fun xs M k k' x x' hk hx ⟨e, q⟩ => ⟨e, h xs _ _ _ _ (fun r => hk r []) (fun c f => hx c f []) q⟩
theorem XE.call (m : MonoD sp) (hE : ∀ σ, C.E σ = E) {dD : List D} (hd : ∀ F, Reps C.K F dD dvs) (h : XA C t ds M fun xs M1 => ∃ Mr Mc, M1 = Mr ++ Mc ∧ (xs ++ dD).length = n ∧ sp (xs ++ dD) Mc (fun r M' => k r (Mr ++ M')) (fun cls fs M' => C.x ds cls fs (Mr ++ M'))) :
    XE C (tCall (spD C.K n sp) dvs E t) ds M k := fun F H σ s e c Q g =>
  h F H σ s e c _ fun xs M1 vs F1 H1 n1 r1 h1 => by
    obtain ⟨Mr, Mc, rfl, hl, q⟩ := h1
    exact spD_use (x := C.x ds) n1.st (r1.append (hd F1)) hl q (g.next n1) (fun cls fs M' d F' H' n2 hx ex => by
      rw [← hE σ]
      exact c ds σ cls fs M' F' H' d (n1.trans n2) (e.mono (n1.trans n2).ex) hx ex) (m _ _)
theorem XE.callP (m : MonoP p) (hE : ∀ σ, C.E σ = E) {dD : List D} (hd : ∀ F, Reps C.K F dD dvs) (h : XA C t ds M fun xs M1 => (xs ++ dD).length = n ∧ p (xs ++ dD) (fun r => k r M1) (fun cls fs => C.x ds cls fs M1)) :
    XE C (tCall (spD C.K n (pur p)) dvs E t) ds M k := XE.call m.pur hE hd fun F H σ s e c Q g => h F H σ s e c Q fun xs M1 vs F1 H1 n1 r1 h1 => g xs M1 vs F1 H1 n1 r1
      ⟨M1, [], (List.append_nil _).symm, h1.1, rfl, m _ _ _ _ _ (fun r q => by rw [← List.append_nil M1] at q; exact q) (fun c f q => by rw [← List.append_nil M1] at q; exact q) h1.2⟩
/-- o.m(..) -/
theorem XE.meth {A : Addr} {mn : Str} (m : MonoD sp) (hE : ∀ σ, C.E σ = E) {dD : List D} (hd : ∀ F, Reps C.K F dD dvs) (h : XE C ta ds M fun y M0 => ∃ fs, InAt M0 y A fs ∧ fs.lookup mn = none ∧ XA C t ds M0 fun xs M1 => ∃ Mr Mc, M1 = Mr ++ Mc ∧ (y :: (xs ++ dD)).length = n ∧ sp (y :: (xs ++ dD)) Mc (fun r M' => k r (Mr ++ M')) (fun cls fs M' => C.x ds cls fs (Mr ++ M'))) :
    XE C (tMeth A mn (spD C.K n sp) dvs E ta t) ds M k := fun F H σ s e c Q g =>
  h F H σ s e c _ fun y M0 vy F0 H0 n0 r0 h0 => by
    obtain ⟨fs, hi, hl, h0⟩ := h0
    obtain ⟨a, dx, gs, rfl, ha, rf⟩ := hi.get n0.st r0
    refine ⟨a, dx, gs, rfl, ha, rf.lookupN hl, h0 F0 H0 σ n0.st (e.mono n0.ex) (c.next n0) _ fun xs M1 vs F1 H1 n1 r1 h1 => ?_⟩
    obtain ⟨Mr, Mc, rfl, hl, q⟩ := h1
    have n01 := n0.trans n1
    exact spD_use (x := C.x ds) n1.st (.cons (r0.mono n1.ex) (r1.append (hd F1))) hl q (g.next n01) (fun cls fs M' d F' H' n2 hx ex => by
      rw [← hE σ]
      exact c ds σ cls fs M' F' H' d (n01.trans n2) (e.mono (n01.trans n2).ex) hx ex) (m _ _)
theorem XE.methP {A : Addr} {mn : Str} (m : MonoP p) (hE : ∀ σ, C.E σ = E) {dD : List D} (hd : ∀ F, Reps C.K F dD dvs) (h : XE C ta ds M fun y M0 => ∃ fs, InAt M0 y A fs ∧ fs.lookup mn = none ∧ XA C t ds M0 fun xs M1 => (y :: (xs ++ dD)).length = n ∧ p (y :: (xs ++ dD)) (fun r => k r M1) (fun cls fs => C.x ds cls fs M1)) :
    XE C (tMeth A mn (spD C.K n (pur p)) dvs E ta t) ds M k := XE.meth m.pur hE hd fun F H σ s e c Q g => h F H σ s e c Q fun y M0 vy F0 H0 n0 r0 h0 => g y M0 vy F0 H0 n0 r0 (by
      obtain ⟨fs, hi, hl, h0⟩ := h0
      exact ⟨fs, hi, hl, fun F H σ s e c Q g => h0 F H σ s e c Q fun xs M1 vs F1 H1 n1 r1 h1 => g xs M1 vs F1 H1 n1 r1
        ⟨M1, [], (List.append_nil _).symm, h1.1, rfl, m _ _ _ _ _ (fun r q => by rw [← List.append_nil M1] at q; exact q) (fun c f q => by rw [← List.append_nil M1] at q; exact q) h1.2⟩⟩)
/-- a new thing that is neither owned nor still -/
theorem Nxt.newX {K : PySem.W.Frag} {F H : Hp} {M : Mem} (s : Stt K F H M) {p : Addr} {o : HO} (h : H p = none) : Nxt K F H M F (upd H p o) M where
  st := ⟨s.ex.updM (s.free h), fun q hq => by
    obtain ⟨h1, u, h2, h3⟩ := s.mem q hq
    exact ⟨h1, u, by rw [upd_ne (ne_of_none h2 h)]; exact h2, h3⟩, s.nd⟩
  ex := Ex.refl F
  fr := fun a u e _ => by
    rw [upd_ne (ne_of_none e h)]
    exact e
  nw := fun a h1 _ _ _ => h1
  dm := fun _ m => .inl m
  tr := fun _ e => upd_some e
/-- what is owned is let go -/
theorem Nxt.drop {K : PySem.W.Frag} {F H : Hp} {M1 M : Mem} (s : Stt K F H (M1 ++ M)) : Nxt K F H (M1 ++ M) F H M where
  st := s.part
  ex := Ex.refl F
  fr := fun _ _ e _ => e
  nw := fun _ h _ _ _ => h
  dm := fun a m => .inl (by
    unfold dom
    rw [List.map_append]
    exact List.mem_append_right _ m)
  tr := fun _ e => e
/-- C(..): a new instance -/
theorem XE.make {A : Addr} (own : Bool) (m : MonoD sp) (hE : ∀ σ, C.E σ = E) {dD : List D} (hd : ∀ F, Reps C.K F dD dvs) (h : XA C t ds M fun xs M1 => ∀ q, q ∉ dom M1 → (D.raw q :: (xs ++ dD)).length = n ∧
      sp (.raw q :: (xs ++ dD)) [(q, .ins A [])] (fun r M' => r = .non ∧ ∃ fs, M' = [(q, .ins A fs)] ∧ if own = true then k (.raw q) ((q, .ins A fs) :: M1) else k (.ins A fs) M1) (fun cls fs M' => C.x ds cls fs M1)) :
    XE C (tMake A (spD C.K n sp) dvs E t) ds M k := fun F H σ s e c Q g =>
  h F H σ s e c _ fun xs M1 vs F1 H1 n1 r1 h1 => fun x dx hx hdx hne => by
    have na := Nxt.newX (o := .own x) n1.st hdx
    have hx' : upd H1 dx (.own x) x = none := by
      rw [upd_ne (Ne.symm hne)]
      exact hx
    have nb := Nxt.newM (o := .ins A dx []) (m := .ins A []) na.st hx' ⟨dx, [], rfl, .nil⟩
    have nab := na.trans nb
    obtain ⟨hl, q⟩ := h1 x (n1.st.out hx)
    have sx : Stt C.K F1 (upd (upd H1 dx (.own x)) x (.ins A dx [])) ([(x, .ins A [])] : Mem) := ⟨nab.st.ex, fun q hq => nab.st.mem q (by
      rcases List.mem_cons.mp hq with e | hq
      · subst e
        exact List.mem_cons_self
      · cases hq), by simp⟩
    -- the callee sees the instance alone; M1 is what else is owned
    have whole : ∀ {F' H' : Hp} {M' : Mem}, Nxt C.K F1 (upd (upd H1 dx (.own x)) x (.ins A dx [])) [(x, .ins A [])] F' H' M' → Nxt C.K F H M F' H' (M1 ++ M') := fun {F' H' M'} nn => by
      have perm : Stt C.K F1 (upd (upd H1 dx (.own x)) x (.ins A dx [])) (M1 ++ [(x, .ins A [])]) := ⟨nab.st.ex, fun q hq => nab.st.mem q (by
        rcases List.mem_append.mp hq with hq | hq
        · exact List.mem_cons_of_mem _ hq
        · rcases List.mem_cons.mp hq with e | hq
          · subst e
            exact List.mem_cons_self
          · cases hq), by
        unfold dom
        rw [List.map_append]
        exact List.nodup_append.mpr ⟨(List.nodup_cons.mp nab.st.nd).2, by simp, fun a ha b hb e => by
          have hb' : b = x := by simpa using hb
          subst e hb'
          exact (List.nodup_cons.mp nab.st.nd).1 ha⟩⟩
      have nw := Nxt.whole (Mr := M1) perm nn
      refine (n1.trans nab).trans ⟨nw.st, nw.ex, fun a o ha na' => nw.fr a o ha fun z => na' ?_, fun a h1 h2 na' hx => nw.nw a h1 h2 (fun z => na' ?_) hx, fun a ma => ?_, nw.tr⟩
      · unfold dom at z ⊢
        rw [List.map_append] at z
        rcases List.mem_append.mp z with z | z
        · exact List.mem_cons_of_mem _ z
        · rw [List.mem_singleton.mp (show a ∈ [x] from z)]
          exact List.mem_cons_self
      · unfold dom at z ⊢
        rw [List.map_append] at z
        rcases List.mem_append.mp z with z | z
        · exact List.mem_cons_of_mem _ z
        · rw [List.mem_singleton.mp (show a ∈ [x] from z)]
          exact List.mem_cons_self
      · refine (nw.dm a ma).imp (fun z => ?_) id
        unfold dom at z ⊢
        rw [List.map_append] at z
        rcases List.mem_append.mp z with z | z
        · exact List.mem_cons_of_mem _ z
        · rw [List.mem_singleton.mp (show a ∈ [x] from z)]
          exact List.mem_cons_self
    have swap : ∀ {F' H' : Hp} {q : Addr × MO}, Stt C.K F' H' (M1 ++ [q]) → Nxt C.K F' H' (M1 ++ [q]) F' H' (q :: M1) := fun {F' H' q} s' => by
      refine ⟨⟨s'.ex, fun p hp => s'.mem p ?_, ?_⟩, Ex.refl _, fun _ _ e _ => e, fun _ e _ _ _ => e, fun a ma => .inl ?_, fun _ e => e⟩
      · rcases List.mem_cons.mp hp with e | hp
        · subst e
          exact List.mem_append_right _ List.mem_cons_self
        · exact List.mem_append_left _ hp
      · have nd := s'.nd
        unfold dom at nd ⊢
        rw [List.map_append] at nd
        obtain ⟨a1, a2, a3⟩ := List.nodup_append.mp nd
        exact List.nodup_cons.mpr ⟨fun z => a3 _ z q.1 (by simp) rfl, a1⟩
      · unfold dom at ma ⊢
        rw [List.map_append]
        rcases List.mem_cons.mp ma with e | ma
        · exact List.mem_append_right _ (by simp [e])
        · exact List.mem_append_left _ ma
    refine ⟨F1, [(x, .ins A [])], _, sx, .cons (.raw x) (r1.append (hd F1)), hl, m _ _ _ _ _ _ (fun r M' hq v F' H' nn rr => ?_) (fun cls fs M' hq d F' H' nn ex => ?_) q⟩
    · obtain ⟨rfl, fs, rfl, hk⟩ := hq
      cases rr
      refine ⟨rfl, ?_⟩
      have N := whole nn
      have N2 := N.trans (swap N.st)
      cases own with
      | true => exact g _ _ _ _ _ N2 (.raw x) hk
      | false =>
        obtain ⟨F2, n2, r2⟩ := frz_ins N2.st Del.hd
        exact g _ _ _ _ _ (N2.trans n2) r2 hk
    · rw [← hE σ]
      have N := whole nn
      have N2 : Nxt C.K F H M F' H' M1 := N.trans ⟨⟨N.st.ex, fun p hp => N.st.mem p (List.mem_append_left _ hp), N.st.nd.sublist ((List.sublist_append_left M1 M').map _)⟩, Ex.refl _, fun _ _ e _ => e, fun _ e _ _ _ => e, fun a ma => .inl (by
        unfold dom
        rw [List.map_append]
        exact List.mem_append_left _ ma), fun _ e => e⟩
      exact c ds σ cls fs M1 F' H' d N2 (e.mono N2.ex) hq ex

/-! ### raise X('..'), X without an own __init__ -/
theorem XS.raiseO {A : Addr} (hE : ∀ σ, C.E σ = E) (h : C.x ds (.ref A) [] M) : XS C (fun _ σ H => (fun (_ : L2.St) (H : Hp) (Q : XK) => Q (.ref A) none H) σ H fun cls d H' => (fun cls d (_ : L2.St) H => E cls d H) cls d σ H') ds M P := fun F H σ s e c D f => by
  show E (.ref A) none H
  rw [← hE σ]
  exact c ds σ _ [] M F H none (Nxt.refl s) e h rfl

/-! ### dicts with keys that are ints or texts -/
def valD (es : List (Key × D)) (q : Key) : Option D := (es.find? fun kv => decide (kv.1 = q)).map (·.2)
def putDK (es : List (Key × D)) (q : Key) (d : D) : List (Key × D) :=
  if (es.any fun kv => decide (kv.1 = q)) = true then es.map (fun kv => if kv.1 = q then (kv.1, d) else kv) else es ++ [(q, d)]
theorem RepK.val {K : PySem.W.Frag} {F : Hp} {q : Key} : ∀ {es : List (Key × D)} {kvs : List (Key × V)}, RepK K F es kvs → (∀ d, valD es q = some d → ∃ v, valV kvs q = some v ∧ Rep K F d v) ∧ (valD es q = none → valV kvs q = none)
  | _, _, .nil => ⟨fun d h => by simp [valD] at h, fun _ => rfl⟩
  | (n, d0) :: es, (_, v0) :: kvs, .cons h r => by
    by_cases z : n = q
    · refine ⟨fun d hd => ?_, fun hd => ?_⟩
      · simp [valD, List.find?_cons, z] at hd
        subst hd
        exact ⟨v0, valV_pos z, h⟩
      · simp [valD, List.find?_cons, z] at hd
    · have e1 : valD ((n, d0) :: es) q = valD es q := by simp [valD, List.find?_cons, z]
      rw [e1, valV_neg z]
      exact RepK.val r
theorem RepK.any {K : PySem.W.Frag} {F : Hp} {q : Key} : ∀ {es : List (Key × D)} {kvs : List (Key × V)}, RepK K F es kvs → (es.any fun kv => decide (kv.1 = q)) = (kvs.any fun kv => decide (kv.1 = q))
  | _, _, .nil => rfl
  | (n, d0) :: es, (_, v0) :: kvs, .cons h r => by
    rw [List.any_cons, List.any_cons, RepK.any r]
theorem RepK.mapPut {K : PySem.W.Frag} {F : Hp} {q : Key} {d : D} {v : V} (h : Rep K F d v) : ∀ {es : List (Key × D)} {kvs : List (Key × V)}, RepK K F es kvs → RepK K F (es.map (fun kv => if kv.1 = q then (kv.1, d) else kv)) (kvs.map (fun kv => if kv.1 = q then (kv.1, v) else kv))
  | _, _, .nil => .nil
  | (n, d0) :: es, (_, v0) :: kvs, .cons h0 r => by
    rw [List.map_cons, List.map_cons]
    by_cases z : n = q
    · rw [if_pos (show ((n, d0) : Key × D).1 = q from z), if_pos (show ((n, v0) : Key × V).1 = q from z)]
      exact .cons h (RepK.mapPut h r)
    · rw [if_neg (show ¬ ((n, d0) : Key × D).1 = q from z), if_neg (show ¬ ((n, v0) : Key × V).1 = q from z)]
      exact .cons h0 (RepK.mapPut h r)
theorem RepK.app {K : PySem.W.Frag} {F : Hp} : ∀ {es es' : List (Key × D)} {kvs kvs' : List (Key × V)}, RepK K F es kvs → RepK K F es' kvs' → RepK K F (es ++ es') (kvs ++ kvs')
  | _, _, _, _, .nil, s => s
  | _, _, _, _, .cons h r, s => .cons h (RepK.app r s)
theorem RepK.put {K : PySem.W.Frag} {F : Hp} {q : Key} {d : D} {v : V} (h : Rep K F d v) {es : List (Key × D)} {kvs : List (Key × V)} (r : RepK K F es kvs) : RepK K F (putDK es q d) (putK kvs q v) := by
  unfold putDK putK
  rw [← r.any]
  split
  · exact r.mapPut h
  · exact r.app (.cons h .nil)
def keyD : Key → D
  | .inl i => .int i
  | .inr x => .str x
theorem Rep.key {K : PySem.W.Frag} {F : Hp} {q : Key} {v : V} (r : Rep K F (keyD q) v) : v = kV q := by
  cases q <;> cases r <;> rfl
theorem Rep.ofKey {K : PySem.W.Frag} {F : Hp} (q : Key) : Rep K F (keyD q) (kV q) := by
  cases q
  · exact .int _
  · exact .str _
theorem XE.dget (h : XE C ta ds M fun x M1 => XE C tb ds M1 fun y M2 => ∃ es q d, DcAt M2 x es ∧ y = keyD q ∧ valD es q = some d ∧ k d M2) : XE C (tDGet ta tb) ds M k := fun F H σ s e c Q g =>
  h F H σ s e c _ fun x M1 v F1 H1 n1 r1 h1 => h1 F1 H1 σ n1.st (e.mono n1.ex) (c.next n1) _ fun y M2 u F2 H2 n2 r2 h2 => by
    obtain ⟨es, q, d, hd, rfl, hv, hq⟩ := h2
    obtain ⟨p, kvs, rfl, hp, rk⟩ := hd.get n2.st (r1.mono n2.ex)
    obtain ⟨w, hw, rw'⟩ := (rk.val (q := q)).1 d hv
    have eu := r2.key
    subst eu
    refine ⟨p, w, rfl, ?_, g _ _ _ _ _ (n1.trans n2) rw' hq⟩
    rw [← hw]
    exact DGet.k hp
theorem XE.din (h : XE C tb ds M fun y M1 => XE C ta ds M1 fun x M2 => ∃ es q, DcAt M2 x es ∧ y = keyD q ∧ k (.bl (valD es q).isSome) M2) : XE C (tDIn tb ta) ds M k := fun F H σ s e c Q g =>
  h F H σ s e c _ fun y M1 u F1 H1 n1 r1 h1 => h1 F1 H1 σ n1.st (e.mono n1.ex) (c.next n1) _ fun x M2 v F2 H2 n2 r2 h2 => by
    obtain ⟨es, q, hd, rfl, hq⟩ := h2
    obtain ⟨p, kvs, rfl, hp, rk⟩ := hd.get n2.st r2
    have eu := r1.key
    subst eu
    refine ⟨p, _, rfl, DGet.k hp, ?_⟩
    have e1 : (valV kvs q).isSome = (valD es q).isSome := by
      cases z : valD es q with
      | none =>
        rw [(rk.val (q := q)).2 z]
        rfl
      | some d =>
        obtain ⟨w, hw, _⟩ := (rk.val (q := q)).1 d z
        rw [hw]
        rfl
    rw [e1]
    exact g _ _ _ _ _ (n1.trans n2) (.bl _) hq
theorem XE.dni (h : XE C tb ds M fun y M1 => XE C ta ds M1 fun x M2 => ∃ es q, DcAt M2 x es ∧ y = keyD q ∧ k (.bl (!(valD es q).isSome)) M2) : XE C (tDNotIn tb ta) ds M k := fun F H σ s e c Q g =>
  h F H σ s e c _ fun y M1 u F1 H1 n1 r1 h1 => h1 F1 H1 σ n1.st (e.mono n1.ex) (c.next n1) _ fun x M2 v F2 H2 n2 r2 h2 => by
    obtain ⟨es, q, hd, rfl, hq⟩ := h2
    obtain ⟨p, kvs, rfl, hp, rk⟩ := hd.get n2.st r2
    have eu := r1.key
    subst eu
    refine ⟨p, _, rfl, DGet.k hp, ?_⟩
    have e1 : (valV kvs q).isSome = (valD es q).isSome := by
      cases z : valD es q with
      | none =>
        rw [(rk.val (q := q)).2 z]
        rfl
      | some d =>
        obtain ⟨w, hw, _⟩ := (rk.val (q := q)).1 d z
        rw [hw]
        rfl
    rw [e1]
    exact g _ _ _ _ _ (n1.trans n2) (.bl _) hq
theorem XS.dput (h : XE C tc ds M fun z M1 => XE C ta ds M1 fun x M2 => XE C tb ds M2 fun y M3 => ∃ p es q M4, x = .raw p ∧ y = keyD q ∧ Up M3 p (.dct es) (.dct (putDK es q z)) M4 ∧ es.length < 16000000 ∧ P.nx ds M4) : XS C (sDPut ta tb tc) ds M P := fun F H σ s e c D f =>
  h F H σ s e c _ fun z M1 v F1 H1 n1 r1 h1 => h1 F1 H1 σ n1.st (e.mono n1.ex) (c.next n1) _ fun x M2 u F2 H2 n2 r2 h2 => h2 F2 H2 σ n2.st (e.mono (n1.trans n2).ex) (c.next (n1.trans n2)) _ fun y M3 w F3 H3 n3 r3 h3 => by
    obtain ⟨p, es, q, M4, rfl, rfl, hu, hl, hq⟩ := h3
    cases r2
    have ew := r3.key
    subst ew
    obtain ⟨_, o, hp, kvs, rfl, rk⟩ := n3.st.at hu.at
    have n123 := (n1.trans n2).trans n3
    have n4 := Nxt.put n3.st (o := .dK (putK kvs q v)) hu ⟨_, rfl, rk.put (r1.mono (n2.trans n3).ex)⟩
    exact ⟨p, _, rfl, DPut.k hp (by rw [← rk.length]; exact sz1 hl), f.nx _ _ _ _ _ (n123.trans n4) (e.mono (n123.trans n4).ex) hq⟩
/-- {k: v, ..}: pairs of written keys -/
def XPr (C : Cfg) (trs : List (TE × TE)) (ds : DS) (M : Mem) (k : List (D × D) → Mem → Prop) : Prop :=
  ∀ F H σ, Stt C.K F H M → EnvR C.K F ds σ → Cov C F H M → ∀ Q : List (V × V) → Hp → Prop, (∀ d M' v F' H', Nxt C.K F H M F' H' M' → Paired (fun (x : D × D) (y : V × V) => Rep C.K F' x.1 y.1 ∧ Rep C.K F' x.2 y.2) d v → k d M' → Q v H') → tPairs trs σ H Q
theorem XPr.nil {k : List (D × D) → Mem → Prop} (h : k [] M) : XPr C [] ds M k := fun F H σ s e c Q g => g [] M [] F H (Nxt.refl s) .nil h
theorem Paired.imp2 {α β : Type} {R S : α → β → Prop} (f : ∀ a b, R a b → S a b) : ∀ {xs : List α} {ys : List β}, Paired R xs ys → Paired S xs ys
  | _, _, .nil => .nil
  | _, _, .cons h r => .cons (f _ _ h) (Paired.imp2 f r)
theorem XPr.cons {k : List (D × D) → Mem → Prop} {trs : List (TE × TE)} (h : XE C ta ds M fun x M1 => XE C tb ds M1 fun y M2 => XPr C trs ds M2 fun ps M3 => k ((x, y) :: ps) M3) : XPr C ((ta, tb) :: trs) ds M k := fun F H σ s e c Q g =>
  h F H σ s e c _ fun x M1 v F1 H1 n1 r1 h1 => h1 F1 H1 σ n1.st (e.mono n1.ex) (c.next n1) _ fun y M2 u F2 H2 n2 r2 h2 => h2 F2 H2 σ n2.st (e.mono (n1.trans n2).ex) (c.next (n1.trans n2)) _ fun ps M3 ws F3 H3 n3 r3 h3 =>
    g _ _ _ _ _ ((n1.trans n2).trans n3) (.cons ⟨r1.mono (n2.trans n3).ex, r2.mono n3.ex⟩ r3) h3
def mergeD (es : List (Key × D)) : List (Key × D) := es.foldl (fun acc kv => putDK acc kv.1 kv.2) []
theorem RepK.merge {K : PySem.W.Frag} {F : Hp} : ∀ {more : List (Key × D)} {rs : List (Key × V)}, RepK K F more rs → ∀ {es : List (Key × D)} {kvs : List (Key × V)}, RepK K F es kvs → RepK K F (more.foldl (fun acc kv => putDK acc kv.1 kv.2) es) (rs.foldl (fun acc kv => putK acc kv.1 kv.2) kvs)
  | _, _, .nil, _, _, q => q
  | _, _, .cons h r, _, _, q => RepK.merge r (q.put h)
theorem pairs_keys {K : PySem.W.Frag} {F : Hp} : ∀ {es : List (Key × D)} {ps : List (V × V)}, Paired (fun (x : D × D) (y : V × V) => Rep K F x.1 y.1 ∧ Rep K F x.2 y.2) (es.map fun kv => (keyD kv.1, kv.2)) ps → ∃ kvs : List (Key × V), ps = kvs.map (fun kv => (kV kv.1, kv.2)) ∧ RepK K F es kvs
  | [], _, .nil => ⟨[], rfl, .nil⟩
  | (q, d) :: es, _, .cons h r => by
    rename_i p ps
    obtain ⟨kvs, e, rk⟩ := pairs_keys r
    obtain ⟨h1, h2⟩ := h
    refine ⟨(q, p.2) :: kvs, ?_, .cons h2 rk⟩
    rw [e, List.map_cons]
    have e1 : p.1 = kV q := h1.key
    show p :: _ = (kV q, p.2) :: _
    rw [← e1]
theorem XE.disp {trs : List (TE × TE)} (h : ∀ p, p ∉ dom M → XPr C trs ds ((p, .dct []) :: M) fun ps M2 => ∃ es M3, ps = es.map (fun kv => (keyD kv.1, kv.2)) ∧ es.length ≤ 15 ∧ Up M2 p (.dct []) (.dct (mergeD es)) M3 ∧ k (.raw p) M3) : XE C (tDisp trs) ds M k := fun F H σ s e c Q g => by
  intro p hp
  have nL := Nxt.newM s (o := .dK []) (m := .dct []) hp ⟨[], rfl, .nil⟩
  refine h p (s.out hp) F _ σ nL.st (e.mono nL.ex) (c.next nL) _ fun ps M2 vs F2 H2 n2 r2 h2 => ?_
  obtain ⟨es, M3, rfl, hl, hu, hk⟩ := h2
  obtain ⟨_, o, h3, kvs0, rfl, r0⟩ := n2.st.at hu.at
  cases r0
  obtain ⟨kvs, rfl, rk⟩ := pairs_keys r2
  have n3 := Nxt.put n2.st (o := .dK (mergeK [] kvs)) hu ⟨_, rfl, RepK.merge rk .nil⟩
  exact ⟨h3, kvs, rfl, by rw [← rk.length]; exact hl, g _ _ _ _ _ ((nL.trans n2).trans n3) (.raw p) hk⟩

/-! ### texts walked; zip, enumerate -/
theorem items_str {F0 : Hp} {K : PySem.W.Frag} (z : Str) : Items K F0 (Its z) (z.cps.toList.map fun c => D.str ⟨#[c]⟩) := fun i F H M e s => by
  refine ⟨fun x hx => ?_, fun hl => by rw [List.length_map, Array.length_toList] at hl; exact hl⟩
  rw [List.getElem?_map, Array.getElem?_toList] at hx
  cases q : z.cps[i]? with
  | none =>
    rw [q] at hx
    cases hx
  | some c =>
    rw [q] at hx
    cases hx
    refine ⟨(Array.getElem?_eq_some_iff.mp q).1, fun w H2 y => ?_⟩
    obtain ⟨rfl, c', hc, rfl⟩ := y
    rw [q] at hc
    cases hc
    exact ⟨F, Nxt.refl s, .str _⟩
theorem XI.str {te : TE} {kl : List D → Mem → Prop} (h : XE C te ds M fun x M1 => ∃ z, x = .str z ∧ kl (z.cps.toList.map fun c => D.str ⟨#[c]⟩) M1) : XI C (iStr te) ds M kl := fun F H σ s e c R g =>
  h F H σ s e c _ fun x M1 v F1 H1 n1 r1 h1 => by
    obtain ⟨z, rfl, q⟩ := h1
    cases r1
    exact ⟨z, rfl, g _ M1 _ F1 H1 n1 (items_str z) q⟩
def enumD (xs : List D) : List D := xs.mapIdx fun i x => D.tup [.int (i : Nat), x]
theorem items_enum {F0 : Hp} {K : PySem.W.Frag} {a : Addr} {xs : List D} {vs : List V} (h : SqL K F0 a vs) (r : Reps K F0 xs vs) : Items K F0 (Ite K a) (enumD xs) := fun i F H M e s => by
  have hq : SqL K H a vs := ex_l (e.trans s.ex) h
  refine ⟨fun x hx => ?_, fun hl => ⟨vs, hq, by unfold enumD at hl; rw [List.length_mapIdx] at hl; rw [← r.length]; exact hl⟩⟩
  unfold enumD at hx
  rw [List.getElem?_mapIdx] at hx
  cases q : xs[i]? with
  | none =>
    rw [q] at hx
    cases hx
  | some d =>
    rw [q] at hx
    cases hx
    obtain ⟨v, hv, rv⟩ := r.get q
    refine ⟨⟨vs, v, hq, hv⟩, fun w H2 y => ?_⟩
    obtain ⟨T, x, rfl, hT, rfl, y⟩ := y
    have e2 := y vs hq
    rw [hv] at e2
    cases e2
    have n := Nxt.newF s (o := .tup [.int (i : Nat), v]) hT
    exact ⟨_, n, .tup (.inl (.inl upd_same)) (.cons (.int _) (.cons ((rv.mono e).mono n.ex) .nil))⟩
theorem XI.enum {t : TA} {kl : List D → Mem → Prop} (h : XA C t ds M fun ys M1 => ∃ y xs, ys = [y] ∧ (y = .lst xs ∨ y = .ro xs) ∧ kl (enumD xs) M1) : XI C (iEnum C.K t) ds M kl := fun F H σ s e c R g =>
  h F H σ s e c _ fun ys M1 v F1 H1 n1 r1 h1 => by
    obtain ⟨y, xs, rfl, hy, q⟩ := h1
    cases r1 with
    | cons r1 r2 =>
      cases r2
      rcases hy with rfl | rfl
      · cases r1 with
        | @lst a vs _ h2 q2 => exact ⟨a, vs, rfl, SqL.of (n1.st.ex _ _ h2), g _ M1 _ F1 H1 n1 (items_enum (SqL.of h2) q2) q⟩
      · cases r1 with
        | @ro a vs _ h2 q2 => exact ⟨a, vs, rfl, ex_l n1.st.ex h2, g _ M1 _ F1 H1 n1 (items_enum h2 q2) q⟩
def zipD (xs ys : List D) : List D := (xs.zip ys).map fun p => D.tup [p.1, p.2]
theorem zipD_get {xs ys : List D} {i : Nat} {x : D} (h : (zipD xs ys)[i]? = some x) : ∃ a b, xs[i]? = some a ∧ ys[i]? = some b ∧ x = .tup [a, b] := by
  unfold zipD at h
  rw [List.getElem?_map] at h
  cases q : (xs.zip ys)[i]? with
  | none =>
    rw [q] at h
    cases h
  | some p =>
    rw [q] at h
    cases h
    have := List.getElem?_zip_eq_some.mp q
    exact ⟨p.1, p.2, this.1, this.2, rfl⟩
theorem items_zipL {F0 : Hp} {K : PySem.W.Frag} {a b : Addr} {xs ys : List D} {vs us : List V} (h : SqL K F0 a vs) (h' : SqL K F0 b us) (r : Reps K F0 xs vs) (r' : Reps K F0 ys us) : Items K F0 (Itz K a b) (zipD xs ys) := fun i F H M e s => by
  have hq : SqL K H a vs := ex_l (e.trans s.ex) h
  have hq' : SqL K H b us := ex_l (e.trans s.ex) h'
  refine ⟨fun x hx => ?_, fun hl => ⟨vs, us, hq, hq', ?_⟩⟩
  · obtain ⟨d1, d2, e1, e2, rfl⟩ := zipD_get hx
    obtain ⟨v, hv, rv⟩ := r.get e1
    obtain ⟨u, hu, ru⟩ := r'.get e2
    refine ⟨⟨vs, us, v, u, hq, hq', hv, hu⟩, fun w H2 y => ?_⟩
    obtain ⟨T, x, x', rfl, hT, rfl, y, y'⟩ := y
    have e3 := y vs hq
    have e4 := y' us hq'
    rw [hv] at e3
    rw [hu] at e4
    cases e3
    cases e4
    have n := Nxt.newF s (o := .tup [v, u]) hT
    exact ⟨_, n, .tup (.inl (.inl upd_same)) (.cons ((rv.mono e).mono n.ex) (.cons ((ru.mono e).mono n.ex) .nil))⟩
  · unfold zipD at hl
    rw [List.length_map, List.length_zip, r.length, r'.length] at hl
    omega
theorem items_zipT {F0 : Hp} {K : PySem.W.Frag} {a b : Addr} {xs ys : List D} {vs us : List V} (h : SqT K F0 a vs) (h' : SqT K F0 b us) (r : Reps K F0 xs vs) (r' : Reps K F0 ys us) : Items K F0 (RZ.ItzT K a b) (zipD xs ys) := fun i F H M e s => by
  have hq : SqT K H a vs := ex_t (e.trans s.ex) h
  have hq' : SqT K H b us := ex_t (e.trans s.ex) h'
  refine ⟨fun x hx => ?_, fun hl => ⟨vs, us, hq, hq', ?_⟩⟩
  · obtain ⟨d1, d2, e1, e2, rfl⟩ := zipD_get hx
    obtain ⟨v, hv, rv⟩ := r.get e1
    obtain ⟨u, hu, ru⟩ := r'.get e2
    refine ⟨⟨vs, us, v, u, hq, hq', hv, hu⟩, fun w H2 y => ?_⟩
    obtain ⟨T, x, x', rfl, hT, rfl, y, y'⟩ := y
    have e3 := y vs hq
    have e4 := y' us hq'
    rw [hv] at e3
    rw [hu] at e4
    cases e3
    cases e4
    have n := Nxt.newF s (o := .tup [v, u]) hT
    exact ⟨_, n, .tup (.inl (.inl upd_same)) (.cons ((rv.mono e).mono n.ex) (.cons ((ru.mono e).mono n.ex) .nil))⟩
  · unfold zipD at hl
    rw [List.length_map, List.length_zip, r.length, r'.length] at hl
    omega
theorem XI.zip {t : TA} {kl : List D → Mem → Prop} (h : XA C t ds M fun zs M1 => ∃ x y xs ys, zs = [x, y] ∧ ((x = .lst xs ∧ y = .lst ys) ∨ (x = .tup xs ∧ y = .tup ys)) ∧ kl (zipD xs ys) M1) : XI C (RZ.iZipA C.K t) ds M kl := fun F H σ s e c R g =>
  h F H σ s e c _ fun zs M1 v F1 H1 n1 r1 h1 => by
    obtain ⟨x, y, xs, ys, rfl, hy, q⟩ := h1
    cases r1 with
    | cons r1 r2 =>
      cases r2 with
      | cons r2 r3 =>
        cases r3
        rcases hy with ⟨rfl, rfl⟩ | ⟨rfl, rfl⟩
        · cases r1 with
          | @lst a vs _ h1 q1 =>
            cases r2 with
            | @lst b us _ h2 q2 => exact ⟨a, b, vs, us, rfl, .inl ⟨SqL.of (n1.st.ex _ _ h1), SqL.of (n1.st.ex _ _ h2), g _ M1 _ F1 H1 n1 (items_zipL (SqL.of h1) (SqL.of h2) q1 q2) q⟩⟩
        · cases r1 with
          | @tup a vs _ h1 q1 =>
            cases r2 with
            | @tup b us _ h2 q2 => exact ⟨a, b, vs, us, rfl, .inr ⟨ex_t n1.st.ex h1, ex_t n1.st.ex h2, g _ M1 _ F1 H1 n1 (items_zipT h1 h2 q1 q2) q⟩⟩
end
end DL

namespace DL
open PySem L2 PyProof.Rows

/-! ### what is walked: a list, a tuple or a text -/
def iU (K : PySem.W.Frag) (tl : TE) : TI := fun σ H R => tl σ H fun x H1 => (∃ a, x = .ref a ∧ (∃ xs, SqL K H1 a xs) ∧ R (Itl K a) H1) ∨ (∃ a, x = .ref a ∧ (∃ xs, SqT K H1 a xs) ∧ R (Itt K a) H1) ∨ ∃ z, x = .str z ∧ R (Its z) H1
theorem pi_U {X : Cx} {tg l : Expr} {tl : TE} (hl : PE X l tl) : PI X tg l (iU X.K tl) := by
  refine ⟨fun pins s σ H R I h => ?_⟩
  refine thn (hl.run pins s σ H _ I h) fun v s1 ⟨x, H1, I1, r1, q1⟩ => ?_
  rcases q1 with ⟨a, e, ⟨xs, hq⟩, q⟩ | ⟨a, e, ⟨xs, hq⟩, q⟩ | ⟨z, e, q⟩
  · subst e
    cases r1
    obtain ⟨its, rv, p, hz⟩ := I1.list hq
    refine wpAny_pyIter_list p.isList ?_
    refine ⟨s1.heap.objs.size, [s1.heap.objs.size], _, _, H1, rfl, I1.kept (t' := s1.toks) fun b o e => Heap.get?_push_of_some _ e, turn_list a _, ⟨_, Heap.get?_push_size _ rfl, rfl, rfl⟩, fun b hb => ?_, q⟩
    have e : b = s1.heap.objs.size := by simpa using hb
    subst e
    exact I1.fpOk (Nat.le_refl _) (I1.hok.fresh (Nat.le_refl _))
  · subst e
    cases r1
    obtain ⟨its, rv, p, hz⟩ := I1.tuple hq
    refine wpAny_pyIter_tuple (show s1.heap.IsTuple a its.toArray from p) ?_
    refine ⟨s1.heap.objs.size, [s1.heap.objs.size], _, _, H1, rfl, I1.kept (t' := s1.toks) fun b o e => Heap.get?_push_of_some _ e, turn_tuple a _, ⟨_, Heap.get?_push_size _ rfl, rfl, rfl⟩, fun b hb => ?_, q⟩
    have e : b = s1.heap.objs.size := by simpa using hb
    subst e
    exact I1.fpOk (Nat.le_refl _) (I1.hok.fresh (Nat.le_refl _))
  · subst e
    obtain ⟨t, rfl⟩ := r1
    cases ha : z.cps.all (· < 128)
    · exact wpAny_pyIter_wide ha (pi_one (tk := s1.toks) I1 _ (turn_str _ z t "str_iterator" (.inr rfl)) ⟨_, Heap.get?_push_size _ rfl, rfl, rfl⟩ q)
    · exact wpAny_pyIter_ascii ha (pi_one (tk := s1.toks) I1 _ (turn_str _ z t "str_ascii_iterator" (.inl rfl)) ⟨_, Heap.get?_push_size _ rfl, rfl, rfl⟩ q)
inductive WkAt : D → List D → Prop
  | lst {xs} : WkAt (.lst xs) xs
  | ro {xs} : WkAt (.ro xs) xs
  | tup {xs} : WkAt (.tup xs) xs
  | str {z} : WkAt (.str z) (z.cps.toList.map fun c => D.str ⟨#[c]⟩)
theorem XI.U {C : Cfg} {ds : DS} {M : Mem} {tl : TE} {kl : List D → Mem → Prop} (h : XE C tl ds M fun x M1 => ∃ xs, WkAt x xs ∧ kl xs M1) : XI C (iU C.K tl) ds M kl := fun F H σ s e c R g =>
  h F H σ s e c _ fun x M1 v F1 H1 n1 r1 h1 => by
    obtain ⟨xs, hx, q⟩ := h1
    cases hx with
    | lst =>
      cases r1 with
      | @lst a vs _ h2 q2 => exact .inl ⟨a, rfl, ⟨vs, SqL.of (n1.st.ex _ _ h2)⟩, g xs M1 _ F1 H1 n1 (items_lst (SqL.of h2) q2) q⟩
    | ro =>
      cases r1 with
      | @ro a vs _ h2 q2 => exact .inl ⟨a, rfl, ⟨vs, ex_l n1.st.ex h2⟩, g xs M1 _ F1 H1 n1 (items_lst h2 q2) q⟩
    | tup =>
      cases r1 with
      | @tup a vs _ h2 q2 => exact .inr (.inl ⟨a, rfl, ⟨vs, ex_t n1.st.ex h2⟩, g xs M1 _ F1 H1 n1 (items_tup h2 q2) q⟩)
    | @str z =>
      cases r1
      exact .inr (.inr ⟨z, rfl, g _ M1 _ F1 H1 n1 (items_str z) q⟩)

/-! ### calls with keywords alone -/
def tCallN0 (m : Nat) (sp : Sp) (gV : List V → List V → List V) (E : XK) (tk : TA) : TE := fun σ H Q => tk σ H fun zs H2 => zs.length = m ∧ sp (gV [] zs) H2 Q E
theorem pe_callN0 {X : Cx} {CX : CXT} {k : Nat} {f : Addr} {fd : FuncData} {ps ks : List Str} {sp : Sp} {E : XK} {x : Str} {p pos : Pos} {kws : List Keyword} {tk : TA} {g : List Value → List Value → List Value} {gV : List V → List V → List V}
    (F : FnOk X.prog X.w X.K X.mg X.base CX k f fd ps sp) (hr : Room k X.A) (hg : Gl X x) (hm : X.mg x = some (.ref f)) (hk : PySem.W.keepIn X.K (.ref f) = true) (hb : KBn X.K fd ps 0 ks g gV) (hx : Passes CX X E)
    (hkw : PK X kws tk) (hall : (backToKw pos (keywordEach kws X.env)).all (·.1.isSome) = true := by rfl) (hks : (backToKw pos (keywordEach kws X.env)).filterMap (·.1) = ks := by rfl)
    (hdb : (x == ("__debug__" : Str)) = false := by decide)
    (hpl : ((backTo pos (starEach [] X.env)).any (·.1) || (backToKw pos (keywordEach kws X.env)).any (·.1.isNone)) = false := by rfl) :
    PE X (.Call (.Name x p) [] kws pos) (tCallN0 ks.length sp gV E tk) := by
  refine ⟨fun pins s σ H Q I h => ?_⟩
  refine wpAny_Call_Name_kw (ld_glob I hg hm ?_ hdb)
  refine PySem.W.callWith_KW0 (h₀ := X.base) I.ok.mod.kin hk hall (thn (hkw.run pos pins s σ H _ I h) fun ws s2 ⟨zs, H2, I2, rz, l2, q2⟩ => ⟨I2.kIn, ?_⟩) hpl
  rw [hks]
  exact run_fnN (us := []) F hr hb hx I2 .nil rz rfl l2 q2
theorem XE.callN0 {C : Cfg} {ds : DS} {M : Mem} {k : D → Mem → Prop} {n m : Nat} {sp : DSp} {E : XK} {tk : TA} {gV : List V → List V → List V} (mo : MonoD sp) (hE : ∀ σ, C.E σ = E) {gD : List D → List D} (hg : ∀ F ds vs, ds.length = m → Reps C.K F ds vs → Reps C.K F (gD ds) (gV [] vs))
    (h : XA C tk ds M fun xs M1 => xs.length = m ∧ ∃ Mr Mc, M1 = Mr ++ Mc ∧ (gD xs).length = n ∧ sp (gD xs) Mc (fun r M' => k r (Mr ++ M')) (fun cls fs M' => C.x ds cls fs (Mr ++ M'))) :
    XE C (tCallN0 m (spD C.K n sp) gV E tk) ds M k := fun F H σ s e c Q g =>
  h F H σ s e c _ fun xs M1 vs F1 H1 n1 r1 h1 => by
    obtain ⟨hm, Mr, Mc, rfl, hl, q⟩ := h1
    refine ⟨by rw [← r1.length]; exact hm, ?_⟩
    exact spD_use (x := C.x ds) n1.st (hg F1 xs vs hm r1) hl q (g.next n1) (fun cls fs M' d F' H' n2 hx ex => by
      rw [← hE σ]
      exact c ds σ cls fs M' F' H' d (n1.trans n2) (e.mono (n1.trans n2).ex) hx ex) (mo _ _)
theorem XE.callN {C : Cfg} {ds : DS} {M : Mem} {k : D → Mem → Prop} {n a m : Nat} {sp : DSp} {E : XK} {t tk : TA} {gV : List V → List V → List V} (mo : MonoD sp) (hE : ∀ σ, C.E σ = E) {gD : List D → List D → List D} (hg : ∀ F ds vs es us, ds.length = a → es.length = m → Reps C.K F ds vs → Reps C.K F es us → Reps C.K F (gD ds es) (gV vs us))
    (h : XA C t ds M fun xs M1 => XA C tk ds M1 fun ys M2 => xs.length = a ∧ ys.length = m ∧ ∃ Mr Mc, M2 = Mr ++ Mc ∧ (gD xs ys).length = n ∧ sp (gD xs ys) Mc (fun r M' => k r (Mr ++ M')) (fun cls fs M' => C.x ds cls fs (Mr ++ M'))) :
    XE C (tCallN a m (spD C.K n sp) gV E t tk) ds M k := fun F H σ s e c Q g =>
  h F H σ s e c _ fun xs M1 vs F1 H1 n1 r1 h1 => h1 F1 H1 σ n1.st (e.mono n1.ex) (c.next n1) _ fun ys M2 us F2 H2 n2 r2 h2 => by
    obtain ⟨ha, hm, Mr, Mc, rfl, hl, q⟩ := h2
    refine ⟨by rw [← r1.length]; exact ha, by rw [← r2.length]; exact hm, ?_⟩
    have n12 := n1.trans n2
    exact spD_use (x := C.x ds) n2.st (hg F2 xs vs ys us ha hm (r1.mono n2.ex) r2) hl q (g.next n12) (fun cls fs M' d F' H' n3 hx ex => by
      rw [← hE σ]
      exact c ds σ cls fs M' F' H' d (n12.trans n3) (e.mono (n12.trans n3).ex) hx ex) (mo _ _)

/-! ### the defs of the text -/
structure FnT (K : PySem.W.Frag) (mg : Str → Option Value) (x : Str) (st : Stmt) (dvs : List V) (kws : List (Str × V)) where
  a : Addr
  fd : FuncData
  F : FunD K x x (defArgs st) (defBody st) (defScope st) dvs kws a fd
  g : mg x = some (.ref a)
structure MeT (K : PySem.W.Frag) (C : Addr) (m qual : Str) (st : Stmt) where
  a : Addr
  fd : FuncData
  F : FunD K m qual (defArgs st) (defBody st) (defScope st) [] [] a fd
  me : Meth K C m a
section
variable {P : Program} {w : World} {K : PySem.W.Frag} {mg : Str → Option Value} {base : Heap}
theorem fn_okD {x qual : Str} {st : Stmt} {f : Addr} {fd : FuncData} {N ps : List Str} {k n : Nat} {sp : DSp} {dvs : List V} {kws : List (Str × V)} (F : FunD K x qual (defArgs st) (defBody st) (defScope st) dvs kws f fd) (S : FnScope N ps (defScope st)) (hn : ps.length = n)
    (body : ∀ (cdv : Value) (A : Around) (outer : List Env) (s : Shared) (H : Hp) (E : XK), Room k (A.deeper (envOfC qual (defScope st) s.heap.objs.size f cdv)) →
      ∃ t, PSs (cxOf (L2.CX P w) P w K mg base N qual (defScope st) f cdv A outer s H E) (defBody st) t ∧
        ∀ ds M kk xx, ds.length = n → sp ds M kk xx → XS (cfg K E xx) t (dstart N ds) M { nx := fun _ M' => kk .non M', rt := kk }) :
    FnOk P w K mg base (L2.CX P w) (k + 1) f fd ps (spD K n sp) := by
  refine F.ok S (fun vs H Q E h => (spD_len vs H Q E h).trans hn.symm) fun cdv A outer s H vs Q E hr h => ?_
  obtain ⟨Fz, M, ds, st, r, hl, h⟩ := h
  obtain ⟨t, ht, hx⟩ := body cdv A outer s H E hr
  refine ⟨t, ht, hx ds M _ _ hl h Fz H _ st (EnvR.begun r) (fun ds0 σ0 cls fs M' F' H' d n _ q ex => q d F' H' n ex) _ ⟨?_, ?_, ?_, ?_⟩⟩
  · exact fun ds' M' σ' F' H' n e q => q .non F' H' n .non
  · exact fun d M' v F' H' n r q => q v F' H' n r
  · exact fun ds' M' σ' F' H' n e q => False.elim q
  · exact fun ds' M' σ' F' H' n e q => False.elim q
/-- of a def that leaves all as it is: what it owned besides is let go -/
theorem fn_okP {x qual : Str} {st : Stmt} {f : Addr} {fd : FuncData} {N ps : List Str} {k n : Nat} {p : PSp} {dvs : List V} {kws : List (Str × V)} (F : FunD K x qual (defArgs st) (defBody st) (defScope st) dvs kws f fd) (S : FnScope N ps (defScope st)) (hn : ps.length = n)
    (body : ∀ (cdv : Value) (A : Around) (outer : List Env) (s : Shared) (H : Hp) (E : XK), Room k (A.deeper (envOfC qual (defScope st) s.heap.objs.size f cdv)) →
      ∃ t, PSs (cxOf (L2.CX P w) P w K mg base N qual (defScope st) f cdv A outer s H E) (defBody st) t ∧
        ∀ ds kk xx, ds.length = n → p ds kk xx → XS (cfg K E (fun c fs _ => xx c fs)) t (dstart N ds) [] { nx := fun _ _ => kk .non, rt := fun r _ => kk r }) :
    FnOk P w K mg base (L2.CX P w) (k + 1) f fd ps (spD K n (pur p)) := by
  refine F.ok S (fun vs H Q E h => (spD_len vs H Q E h).trans hn.symm) fun cdv A outer s H vs Q E hr h => ?_
  obtain ⟨Fz, M, ds, st, r, hl, rfl, h⟩ := h
  obtain ⟨t, ht, hx⟩ := body cdv A outer s H E hr
  have drop : ∀ {F' H' : Hp} {M' : Mem}, Nxt K Fz H [] F' H' M' → Nxt K Fz H [] F' H' [] := fun {F' H' M'} n => n.trans (Nxt.drop (M1 := M') (M := []) (by rw [List.append_nil]; exact n.st) |> fun z => by rw [List.append_nil] at z; exact z)
  refine ⟨t, ht, hx ds _ _ hl h Fz H _ st (EnvR.begun r) (fun ds0 σ0 cls fs M' F' H' d n _ q ex => q d F' H' (drop n) ex) _ ⟨?_, ?_, ?_, ?_⟩⟩
  · exact fun ds' M' σ' F' H' n e q => q .non F' H' (drop n) .non
  · exact fun d M' v F' H' n r q => q v F' H' (drop n) r
  · exact fun ds' M' σ' F' H' n e q => False.elim q
  · exact fun ds' M' σ' F' H' n e q => False.elim q
theorem px0 {N : List Str} {qual : Str} {sc : Scope} {f : Addr} {cdv : Value} {A : Around} {outer : List Env} {s : Shared} {H : Hp} {E : XK} : Passes (L2.CX P w) (cxOf (L2.CX P w) P w K mg base N qual sc f cdv A outer s H E) E :=
  passes_call (takes_of rfl rfl rfl rfl) fun _ _ _ _ h => h
theorem hu65_of {A : Around} {k : Nat} (hr : Room k A) : A.units + 65 < cLine := by have := hr.un; omega
end

/-! ### sizes of ints -/
def B (n : Nat) (x : Int) : Prop := x.natAbs < 2 ^ n
theorem B.mono {n m : Nat} {x : Int} (h : B n x) (hm : n ≤ m) : B m x := Nat.lt_of_lt_of_le h (Nat.pow_le_pow_right (by decide) hm)
theorem B.mul {n m : Nat} {x y : Int} (h : B n x) (h' : B m y) : B (n + m) (x * y) := wide_lt h h'
theorem pow_add_le (n m : Nat) : 2 ^ n + 2 ^ m ≤ 2 ^ (max n m + 1) := by
  have h1 : 2 ^ n ≤ 2 ^ max n m := Nat.pow_le_pow_right (by decide) (Nat.le_max_left _ _)
  have h2 : 2 ^ m ≤ 2 ^ max n m := Nat.pow_le_pow_right (by decide) (Nat.le_max_right _ _)
  rw [Nat.pow_succ]
  omega
theorem B.add {n m : Nat} {x y : Int} (h : B n x) (h' : B m y) : B (max n m + 1) (x + y) := by
  have h1 : x.natAbs < 2 ^ n := h
  have h2 : y.natAbs < 2 ^ m := h'
  have h3 := pow_add_le n m
  have h4 : (x + y).natAbs ≤ x.natAbs + y.natAbs := Int.natAbs_add_le x y
  show _ < _
  omega
theorem B.sub {n m : Nat} {x y : Int} (h : B n x) (h' : B m y) : B (max n m + 1) (x - y) := by
  have h1 : x.natAbs < 2 ^ n := h
  have h2 : y.natAbs < 2 ^ m := h'
  have h3 := pow_add_le n m
  have h4 : (x - y).natAbs ≤ x.natAbs + y.natAbs := Int.natAbs_sub_le x y
  show _ < _
  omega
theorem B.neg {n : Nat} {x : Int} (h : B n x) : B n (-x) := by
  show _ < _
  rw [Int.natAbs_neg]
  exact h
theorem B.nat {n : Nat} {x : Int} (h : B n x) : B n (x.natAbs : Int) := by
  show _ < _
  rw [Int.natAbs_natCast]
  exact h
theorem B.le {n : Nat} {x y : Int} (h : B n x) (hy : y.natAbs ≤ x.natAbs) : B n y := Nat.lt_of_le_of_lt hy h
theorem B.log {n : Nat} {x : Int} (h : B n x) (h0 : 0 < n) : x.natAbs.log2 < n := PySem.Flt.log2_lt_of h0 h
theorem fdiv_abs (x y : Int) : (x.fdiv y).natAbs ≤ x.natAbs := by
  by_cases h : 0 ≤ y
  · rw [Int.fdiv_eq_ediv_of_nonneg x h]
    exact Int.natAbs_ediv_le_natAbs x y
  · have e : x.fdiv y = (-x).fdiv (-y) := (Int.neg_fdiv_neg x y).symm
    rw [e, Int.fdiv_eq_ediv_of_nonneg (-x) (by omega)]
    exact Nat.le_trans (Int.natAbs_ediv_le_natAbs _ _) (by rw [Int.natAbs_neg]; exact Nat.le_refl _)
theorem B.fdiv {n : Nat} {x : Int} (h : B n x) (y : Int) : B n (x.fdiv y) := h.le (fdiv_abs x y)
theorem B.mulOk {n m : Nat} {x y : Int} (h : B n x) (h' : B m y) (hn : 0 < n) (hm : 0 < m) (hl : n + m ≤ 1000000) : CMulW x y := wide_mul h h' hn hm hl
theorem B.divOk {n : Nat} {x y : Int} (h : B n y) (h0 : y ≠ 0) (hn : 0 < n) (hl : n ≤ 9000) : CDivZ x y := ⟨h0, Nat.lt_of_lt_of_le (h.log hn) hl⟩
end DL

namespace DL
open PySem L2 PyProof.Rows
/-! ### fractions -/
def dQ (q : Rat) : D := .tup [.int q.num, .int (q.den : Int)]
structure BQ (n : Nat) (q : Rat) : Prop where
  num : B n q.num
  den : B n (q.den : Int)
theorem BQ.mono {n m : Nat} {q : Rat} (h : BQ n q) (hm : n ≤ m) : BQ m q := ⟨h.num.mono hm, h.den.mono hm⟩
theorem den_ne (q : Rat) : (q.den : Int) ≠ 0 := by
  have := q.den_nz
  omega
theorem den_pos (q : Rat) : (0 : Int) < q.den := by
  have := q.den_nz
  omega
theorem divInt_num_abs (n d : Int) : (Rat.divInt n d).num.natAbs ≤ n.natAbs := by
  rw [Rat.num_divInt]
  by_cases h : d = 0
  · subst h
    simp
  · refine Nat.le_trans (Int.natAbs_ediv_le_natAbs _ _) ?_
    rw [Int.natAbs_mul]
    have : d.sign.natAbs ≤ 1 := by
      rw [Int.natAbs_sign]
      split <;> omega
    exact Nat.le_trans (Nat.mul_le_mul_right _ this) (by omega)
theorem divInt_den_le (n d : Int) (hd : d ≠ 0) : (Rat.divInt n d).den ≤ d.natAbs := by
  rw [Rat.den_divInt, if_neg hd]
  exact Nat.div_le_self _ _
theorem BQ.divInt {a : Nat} {n d : Int} (hn : B a n) (hd : B a d) (h0 : d ≠ 0) : BQ a (Rat.divInt n d) :=
  ⟨hn.le (divInt_num_abs n d), hd.le (by rw [Int.natAbs_natCast]; exact divInt_den_le n d h0)⟩
theorem add_divInt (p q : Rat) : Rat.divInt (p.num * q.den + q.num * p.den) (p.den * q.den) = p + q := by
  rw [Rat.add_def', ← Rat.divInt_ofNat]
  rfl
theorem sub_divInt (p q : Rat) : Rat.divInt (p.num * q.den - q.num * p.den) (p.den * q.den) = p - q := by
  rw [Rat.sub_def', ← Rat.divInt_ofNat]
  rfl
theorem mul_divInt (p q : Rat) : Rat.divInt (p.num * q.num) (p.den * q.den) = p * q := by
  rw [Rat.mul_def', ← Rat.divInt_ofNat]
  rfl
theorem div_divInt (p q : Rat) : Rat.divInt (p.num * q.den) (p.den * q.num) = p / q := by
  rw [Rat.div_def, Rat.inv_def, ← Rat.divInt_mul_divInt, Rat.num_divInt_den]
theorem BQ.add {a b : Nat} {p q : Rat} (h : BQ a p) (h' : BQ b q) : BQ (a + b + 1) (p + q) := by
  rw [← add_divInt]
  refine BQ.divInt (((h.num.mul h'.den).add (h'.num.mul h.den)).mono ?_) ((h.den.mul h'.den).mono (by omega)) (Int.mul_ne_zero (den_ne p) (den_ne q))
  omega
theorem BQ.sub {a b : Nat} {p q : Rat} (h : BQ a p) (h' : BQ b q) : BQ (a + b + 1) (p - q) := by
  rw [← sub_divInt]
  refine BQ.divInt (((h.num.mul h'.den).sub (h'.num.mul h.den)).mono ?_) ((h.den.mul h'.den).mono (by omega)) (Int.mul_ne_zero (den_ne p) (den_ne q))
  omega
theorem BQ.mul {a b : Nat} {p q : Rat} (h : BQ a p) (h' : BQ b q) : BQ (a + b) (p * q) := by
  rw [← mul_divInt]
  exact BQ.divInt (h.num.mul h'.num) (h.den.mul h'.den) (Int.mul_ne_zero (den_ne p) (den_ne q))
theorem num_ne {q : Rat} (h : q ≠ 0) : q.num ≠ 0 := fun z => h (Rat.num_eq_zero.mp z)
theorem BQ.div {a b : Nat} {p q : Rat} (h : BQ a p) (h' : BQ b q) (hq : q ≠ 0) : BQ (a + b) (p / q) := by
  rw [← div_divInt]
  exact BQ.divInt (h.num.mul h'.den) (h.den.mul h'.num) (Int.mul_ne_zero (den_ne p) (num_ne hq))
theorem B.one {n : Nat} (h : 0 < n) : B n 1 := by
  show (1 : Nat) < 2 ^ n
  exact Nat.one_lt_two_pow (by omega)
theorem B.zero {n : Nat} : B n 0 := by
  show (0 : Nat) < 2 ^ n
  exact Nat.two_pow_pos n
theorem BQ.int {n : Nat} {i : Int} (h : B n i) (h0 : 0 < n) : BQ n (i : Rat) := ⟨h, B.one h0⟩
theorem dQ_zero : dQ 0 = .tup [.int 0, .int 1] := rfl
theorem dQ_one : dQ 1 = .tup [.int 1, .int 1] := rfl
theorem dQ_int (i : Int) : dQ (i : Rat) = .tup [.int i, .int 1] := rfl
theorem dQ_inj {p q : Rat} (h : dQ p = dQ q) : p = q := by
  unfold dQ at h
  injection h with h
  injection h with h1 h2
  injection h2 with h2 _
  injection h1 with h1
  injection h2 with h2
  exact Rat.ext h1 (by omega)
theorem sub_ne {p q : Rat} (h : p < q) : q - p ≠ 0 := by grind
/-- what the program's quotient by the common divisor gives -/
theorem gcd_ne {n d : Int} (h : d ≠ 0) : (Int.gcd n d : Int) ≠ 0 := by
  have := Int.gcd_pos_of_ne_zero_right n h
  omega
theorem new_pos {n d : Int} (h : 0 < d) : dQ (Rat.divInt n d) = .tup [.int (n.fdiv (Int.gcd n d)), .int (d.fdiv (Int.gcd n d))] := by
  unfold dQ
  have h0 : d ≠ 0 := by omega
  rw [Rat.num_divInt, Rat.den_divInt, if_neg h0, Int.sign_eq_one_of_pos h, Int.one_mul, Int.gcd_comm d n, Int.fdiv_eq_ediv_of_nonneg n (by omega), Int.fdiv_eq_ediv_of_nonneg d (by omega)]
  have e : ((d.natAbs / Int.gcd n d : Nat) : Int) = d / (Int.gcd n d : Int) := by
    rw [Int.natCast_ediv, Int.natAbs_of_nonneg (by omega)]
  rw [e]
theorem new_neg {n d : Int} (h : d < 0) : dQ (Rat.divInt n d) = .tup [.int (n.fdiv (-(Int.gcd n d : Int))), .int (d.fdiv (-(Int.gcd n d : Int)))] := by
  have e : Rat.divInt n d = Rat.divInt (-n) (-d) := (Rat.neg_divInt_neg n d).symm
  rw [e, new_pos (by omega), Int.gcd_neg, Int.neg_gcd]
  rw [← Int.neg_fdiv_neg n, ← Int.neg_fdiv_neg d, Int.neg_neg]
theorem den_lt {p q : Rat} : decide (p.num * (q.den : Int) < q.num * (p.den : Int)) = decide (p < q) := by
  rw [decide_eq_decide]
  exact (Rat.lt_iff p q).symm
/-- a pair in lowest terms is a fraction -/
theorem dQ_of {n d : Int} (h : 1 ≤ d) (hg : Int.gcd n d = 1) : dQ (Rat.divInt n d) = .tup [.int n, .int d] := by
  rw [new_pos (by omega), hg]
  have e1 : n.fdiv ((1 : Nat) : Int) = n := by simp
  have e2 : d.fdiv ((1 : Nat) : Int) = d := by simp
  rw [e1, e2]
theorem gcd_num_den (q : Rat) : Int.gcd q.num q.den = 1 := q.reduced

/-! ### knots -/
abbrev Kn := Rat × Rat
def dKn (k : Kn) : D := .tup [dQ k.1, dQ k.2]
structure BK (n : Nat) (k : Kn) : Prop where
  t : BQ n k.1
  x : BQ n k.2
end DL

namespace DL
open PySem L2 PyProof.Rows
theorem XS.never {C : Cfg} {ds : DS} {M : Mem} {P : Post} (h : False) : XS C tNever ds M P := h.elim
theorem dQ_ok (q : Rat) : okD 1 (dQ q) = true := rfl
theorem dKn_ok (q : Kn) : okD 2 (dKn q) = true := rfl
theorem dQ_py (q : Rat) : (dQ q).py = .tuple [.int q.num, .int q.den] := rfl
theorem dKn_py (q : Kn) : (dKn q).py = .tuple [(dQ q.1).py, (dQ q.2).py] := rfl
theorem dQ_py_inj {p q : Rat} (h : (dQ p).py = (dQ q).py) : p = q := by
  rw [dQ_py, dQ_py] at h
  injection h with h
  injection h with h1 h2
  injection h2 with h2 _
  injection h1 with h1
  injection h2 with h2
  exact Rat.ext h1 (by omega)
theorem dKn_py_inj {p q : Kn} (h : (dKn p).py = (dKn q).py) : p = q := by
  rw [dKn_py, dKn_py] at h
  injection h with h
  injection h with h1 h2
  injection h2 with h2 _
  exact Prod.ext (dQ_py_inj h1) (dQ_py_inj h2)
theorem bool_iff {b c : Bool} (h : b = true ↔ c = true) : b = c := by
  cases b <;> cases c <;> simp at h ⊢
theorem eqv_dQ (p q : Rat) : PyData.eqv (dQ p).py (dQ q).py = decide (p = q) := by
  refine bool_iff ?_
  rw [eqv_iff _ _ rfl rfl, decide_eq_true_eq]
  exact ⟨dQ_py_inj, fun h => by rw [h]⟩
theorem eqv_dKn (p q : Kn) : PyData.eqv (dKn p).py (dKn q).py = decide (p = q) := by
  refine bool_iff ?_
  rw [eqv_iff _ _ rfl rfl, decide_eq_true_eq]
  exact ⟨dKn_py_inj, fun h => by rw [h]⟩
section
variable {K : PySem.W.Frag} {M : Mem} {k : D → Mem → Prop}
theorem XR.eq_dQ {p q : Rat} (h : k (.bl (decide (p = q))) M) : XR K (rEqU K) (dQ p) (dQ q) M k := by
  rw [← eqv_dQ] at h
  exact XR.eqD (n := 1) (m := 1) .self .self rfl rfl (by decide) (by decide) h
theorem XR.ne_dQ {p q : Rat} (h : k (.bl (!decide (p = q))) M) : XR K (rNeU K) (dQ p) (dQ q) M k := by
  rw [← eqv_dQ] at h
  exact XR.neD (n := 1) (m := 1) .self .self rfl rfl (by decide) (by decide) h
theorem XR.eq_dKn {p q : Kn} (h : k (.bl (decide (p = q))) M) : XR K (rEqU K) (dKn p) (dKn q) M k := by
  rw [← eqv_dKn] at h
  exact XR.eqD (n := 2) (m := 2) .self .self rfl rfl (by decide) (by decide) h
end
/-- lists of encodings -/
theorem pyAll_map {α : Type} (e : α → D) : ∀ xs : List α, pyAll (xs.map e) = xs.map fun x => (e x).py
  | [] => rfl
  | x :: xs => by
    rw [List.map_cons, List.map_cons, pyAll, pyAll_map e xs]
theorem map_inj {α β : Type} {f : α → β} (hf : ∀ a b, f a = f b → a = b) : ∀ {xs ys : List α}, xs.map f = ys.map f → xs = ys
  | [], [], _ => rfl
  | [], _ :: _, h => by simp at h
  | _ :: _, [], h => by simp at h
  | x :: xs, y :: ys, h => by
    rw [List.map_cons, List.map_cons] at h
    injection h with h1 h2
    rw [hf _ _ h1, map_inj hf h2]
theorem noblAll_map {α : Type} {e : α → D} (h : ∀ x, nobl (e x).py = true) : ∀ xs : List α, noblAll (pyAll (xs.map e)) = true
  | [] => rfl
  | x :: xs => by
    rw [List.map_cons, pyAll, noblAll, h x, noblAll_map h xs]
    rfl
theorem okD_map {α : Type} {e : α → D} {n : Nat} (h : ∀ x, okD n (e x) = true) (xs : List α) : (xs.map e).all (okD n) = true := by
  rw [List.all_eq_true]
  intro d hd
  obtain ⟨x, _, rfl⟩ := List.mem_map.mp hd
  exact h x
open Classical in
theorem eqv_maps {α : Type} {e : α → D} (h : ∀ x, nobl (e x).py = true) (hi : ∀ a b, (e a).py = (e b).py → a = b) (xs ys : List α) : PyData.eqvAll (pyAll (xs.map e)) (pyAll (ys.map e)) = decide (xs = ys) := by
  refine bool_iff ?_
  rw [eqv_iffs _ _ (noblAll_map h xs) (noblAll_map h ys), decide_eq_true_eq, pyAll_map, pyAll_map]
  exact ⟨fun q => map_inj hi q, fun q => by rw [q]⟩
/-- ascending times -/
def Asc (ks : List Kn) : Prop := ∀ (i : Nat) a b, ks[i]? = some a → ks[i + 1]? = some b → a.1 < b.1
def slopesI : List Kn → List Rat
  | a :: b :: r => (b.2 - a.2) / (b.1 - a.1) :: slopesI (b :: r)
  | _ => []
def slopes (ks : List Kn) : List Rat := slopesI ks ++ [0]
theorem slopesI_len : ∀ ks : List Kn, (slopesI ks).length = ks.length - 1
  | [] => rfl
  | [_] => rfl
  | a :: b :: r => by
    show (slopesI (b :: r)).length + 1 = r.length + 1 + 1 - 1
    rw [slopesI_len (b :: r)]
    show r.length + 1 - 1 + 1 = _
    omega
theorem slopesI_get : ∀ (ks : List Kn) (i : Nat) (a b : Kn), ks[i]? = some a → ks[i + 1]? = some b → (slopesI ks)[i]? = some ((b.2 - a.2) / (b.1 - a.1))
  | [], _, _, _, h, _ => by simp at h
  | [_], 0, _, _, _, h => by simp at h
  | [_], i + 1, _, _, h, _ => by simp at h
  | x :: y :: r, 0, a, b, h, h2 => by
    have e1 : x = a := Option.some.inj h
    have e2 : y = b := Option.some.inj h2
    subst e1 e2
    rfl
  | x :: y :: r, i + 1, a, b, h, h2 => slopesI_get (y :: r) i a b h h2
theorem slopes_len {ks : List Kn} (h : ks ≠ []) : (slopes ks).length = ks.length := by
  unfold slopes
  rw [List.length_append, slopesI_len]
  have : 0 < ks.length := List.length_pos_iff.mpr h
  show _ - 1 + 1 = _
  omega
def turnsAt (ks : List Kn) (i : Nat) : Option Kn := if (slopes ks)[i + 1]? = (slopes ks)[i]? then none else ks[i + 1]?
def turns (ks : List Kn) : List Kn := ks.take 1 ++ (List.range (ks.length - 1)).filterMap (turnsAt ks)
def dTab (C : Addr) (ks : List Kn) : D := .ins C [("points", .tup (ks.map dKn)), ("turns", .tup ((turns ks).map dKn))]
/-- the knots' sizes -/
def BKs (n : Nat) (ks : List Kn) : Prop := ∀ k ∈ ks, BQ n k.1 ∧ BQ n k.2
theorem BKs.get {n : Nat} {ks : List Kn} (h : BKs n ks) {i : Nat} {a : Kn} (e : ks[i]? = some a) : BQ n a.1 ∧ BQ n a.2 := h a (List.mem_of_getElem? e)
theorem cutD_from {α : Type} (xs : List α) (n : Nat) : cutD xs (some (n : Int)) none = xs.drop n := by
  unfold cutD
  rw [HT.sIx_nat, HT.sIx_none]
  by_cases h : n ≤ xs.length
  · rw [Nat.min_eq_left h]
    exact List.take_of_length_le (by rw [List.length_drop]; omega)
  · rw [Nat.min_eq_right (by omega), List.drop_of_length_le (Nat.le_refl _), List.drop_of_length_le (by omega)]
    simp
theorem cutD_to {α : Type} (xs : List α) (n : Nat) : cutD xs none (some (n : Int)) = xs.take n := by
  unfold cutD
  rw [HT.sIx_nat, HT.sIx_none, List.drop_zero, Nat.sub_zero, List.take_eq_take_iff]
  omega
theorem cutD_tail {α : Type} (xs : List α) : cutD xs (some 1) none = xs.drop 1 := cutD_from xs 1
theorem cutD_head {α : Type} (xs : List α) : cutD xs none (some 1) = xs.take 1 := cutD_to xs 1
theorem map_get {α : Type} {e : α → D} {xs : List α} {i : Nat} {d : D} (h : (xs.map e)[i]? = some d) : ∃ x, xs[i]? = some x ∧ d = e x := by
  rw [List.getElem?_map] at h
  obtain ⟨x, h1, h2⟩ := Option.map_eq_some_iff.mp h
  exact ⟨x, h1, h2.symm⟩
theorem get_map {α : Type} {e : α → D} {xs : List α} {i : Nat} {x : α} (h : xs[i]? = some x) : (xs.map e)[i]? = some (e x) := by
  rw [List.getElem?_map, h]
  rfl
theorem at_nat {α : Type} {xs : List α} {z : Int} {j : Nat} {x : α} (e : z = (j : Int)) (h : xs[j]? = some x) : L2.atI xs z = some x := by
  rw [e]
  exact L2.atI_nat h
end DL
/-! ### the rules with the written part told -/
namespace DL
open PySem L2 PyProof.Rows
section
variable {X : Cx} {K : PySem.W.Frag}
theorem op_addK (h : X.K = K) : OpR X (binaryOp .Add) (rAddU K) := by subst h; exact op_addU
theorem op_eqK (h : X.K = K) (hu : X.A.units + 64 < cLine) : OpR X (compareOp .Eq) (rEqU K) := by subst h; exact op_eqU hu
theorem op_neK (h : X.K = K) (hu : X.A.units + 64 < cLine) : OpR X (compareOp .NotEq) (rNeU K) := by subst h; exact op_neU hu
theorem op_inK (h : X.K = K) (hu : X.A.units + 65 < cLine) : OpR X (compareOp .In) (rInV K) := by subst h; exact op_inV hu
theorem op_niK (h : X.K = K) (hu : X.A.units + 65 < cLine) : OpR X (compareOp .NotIn) (rNiV K) := by subst h; exact op_niV hu
theorem ix_K (h : X.K = K) : IxR X (rIx K) := by subst h; exact ix_seq
theorem sl_K (h : X.K = K) : SlR X (rSlU K) := by subst h; exact sl_U
theorem cr_lenK (h : X.K = K) : CallR X (.builtin "len") (rLenU K) := by subst h; exact cr_len
theorem cr_tupK (h : X.K = K) : CallR X (.type "tuple") (rTupOf K) := by subst h; exact cr_tup
theorem cr_lstK (h : X.K = K) : CallR X (.type "list") (rLstOf K) := by subst h; exact cr_lst
theorem cr_isiK (h : X.K = K) : CallR X (.builtin "isinstance") (rIsi K) := by subst h; exact call_isi
theorem cr_isiTK (h : X.K = K) : CallR X (.builtin "isinstance") (rIsiT K) := by subst h; exact call_isiT
theorem pi_K (h : X.K = K) {tg l : Expr} {tl : TE} (hl : PE X l tl) : PI X tg l (iU K tl) := by subst h; exact pi_U hl
theorem pe_fldK (h : X.K = K) {e : Expr} {f : Str} {pos : Pos} {ta : TE} (he : PE X e ta) (hb : attributeBase e f X.env (eval e X.env) = eval e X.env) : PE X (.Attribute e f pos) (tFld K ta f) := by subst h; exact pe_fld he hb
theorem pe_conK (h : X.K = K) {e : Expr} {f : Str} {pos : Pos} {ta : TE} (he : PE X e ta) (hb : attributeBase e f X.env (eval e X.env) = eval e X.env) : PE X (.Attribute e f pos) (tCon K ta f) := by subst h; exact pe_con he hb
theorem ps_fldK (h : X.K = K) {o value : Expr} {f : Str} {pos pos' : Pos} {ta tv : TE} (ha : PE X o ta) (hv : PE X value tv) (hs : swapsWith value (some (.Attribute o f pos')) pos.line X.env = pure false) : PS X (.Assign [.Attribute o f pos'] value pos) (sFld K ta tv f) := by subst h; exact ps_fld ha hv hs
theorem pg_tupK (h : X.K = K) {es : List Expr} {k : Nat} {t : TGs} {n : Nat} {pos : Pos} (hc : X.calm = true) (hg : PGs X es t)
    (hn : (assignEach es X.env).length = n := by rfl) (hst : (assignEach es X.env).findIdx? (·.1) = none := by rfl) : PG X (.Tuple es k pos) (gTup K n t) := by
  subst h
  exact pg_tup hc hg hn hst
theorem pi_zipK (h : X.K = K) {e e2 : Expr} {ta : TA} {p pos tpos : Pos} {elts : List Expr} {kk : Nat} (hg : Gl X "zip") (hm : X.mg "zip" = none) (ha : PA X [e, e2] ta)
    (hs : starEach [e, e2] X.env = (false, eval e X.env) :: starEach [e2] X.env := by rfl) (hpl : (backTo pos (starEach [e2] X.env)).any (·.1) = false := by rfl) :
    PI X (.Tuple elts kk tpos) (.Call (.Name "zip" p) [e, e2] [] pos) (RZ.iZipA K ta) := by subst h; exact RZ.pi_zipA hg hm ha hs hpl
theorem pi_enumK (h : X.K = K) {e : Expr} {ta : TA} {p pos tpos : Pos} {elts : List Expr} {kk : Nat} (hg : Gl X "enumerate") (hm : X.mg "enumerate" = none) (ha : PA X [e] ta) (hs : starEach [e] X.env = [(false, eval e X.env)] := by rfl) :
    PI X (.Tuple elts kk tpos) (.Call (.Name "enumerate" p) [e] [] pos) (iEnum K ta) := by subst h; exact pi_enum hg hm ha hs
theorem pe_splitD {o e : Expr} {to te : TE} {apos pos : Pos} (ho : PE X o to) (he : PE X e te) (hs : starEach [e] X.env = [(false, eval e X.env)] := by rfl) (hbase : attributeBase o "split" X.env (eval o X.env) = eval o X.env := by rfl) (hline : (apos.endLine == pos.line) = true := by rfl) :
    PE X (.Call (.Attribute o "split" apos) [e] [] pos) (tM1 rSplit to te) := pe_split ho he hs hbase hline
theorem pe_joinK (h : X.K = K) {o e : Expr} {to te : TE} {apos pos : Pos} (ho : PE X o to) (he : PE X e te) (hs : starEach [e] X.env = [(false, eval e X.env)] := by rfl) (hbase : attributeBase o "join" X.env (eval o X.env) = eval o X.env := by rfl) (hline : (apos.endLine == pos.line) = true := by rfl) :
    PE X (.Call (.Attribute o "join" apos) [e] [] pos) (tM1 (rJoin K) to te) := by subst h; exact pe_join ho he hs hbase hline
theorem pe_bmK (h : X.K = K) {o e : Expr} {es : List Expr} {to : TE} {t : TA} {name : Str} {apos cpos : Pos} {T id : String} {r : V → List V → Hp → VK → Prop} (pa : PlainAttrs T) (slot : Slot T name id) (hty : typeOf (.builtin id) = pure (.type "method_descriptor")) (hm : MtR X id r) (ho : PE X o to) (ha : PA X (e :: es) t)
    (hbase : attributeBase o name X.env (eval o X.env) = eval o X.env := by rfl)
    (hfew : ((backTo cpos (starEach (e :: es) X.env)).all (fun x => !x.1) && (backToKw cpos (keywordEach [] X.env)).all (fun x => x.1.isSome)
      && decide ((e :: es).length + ([] : List Keyword).length + (if ([] : List Keyword).isEmpty then 0 else 1) < 30)) = true := by rfl)
    (hline : (apos.endLine == cpos.line) = true := by rfl) (hs : starEach (e :: es) X.env = (false, eval e X.env) :: starEach es X.env := by rfl) (hplain : (backTo cpos (starEach es X.env)).any (·.1) = false := by rfl) :
    PE X (.Call (.Attribute o name apos) (e :: es) [] cpos) (tBM K T r to t) := by subst h; exact pe_bm pa slot hty hm ho ha hbase hfew hline hs hplain
theorem pe_bm0K (h : X.K = K) {o : Expr} {to : TE} {name : Str} {apos cpos : Pos} {T id : String} {r : V → List V → Hp → VK → Prop} (pa : PlainAttrs T) (slot : Slot T name id) (hty : typeOf (.builtin id) = pure (.type "method_descriptor")) (hm : MtR X id r) (ho : PE X o to)
    (hbase : attributeBase o name X.env (eval o X.env) = eval o X.env := by rfl) (hline : (apos.endLine == cpos.line) = true := by rfl) : PE X (.Call (.Attribute o name apos) [] [] cpos) (tBM0 K T r to) := by subst h; exact pe_bm0 pa slot hty hm ho hbase hline
end
end DL

namespace DL
open PySem PySem.Spec PyProof.Rows L2

/-! ### == of two objects of one class with an own __eq__ -/
def rOwn (C : Addr) (sp : Sp) (E : XK) : R2 := fun x y H Q => (∃ a d fs, x = .ref a ∧ H a = some (.ins C d fs)) ∧ (∃ b d fs, y = .ref b ∧ H b = some (.ins C d fs)) ∧ sp [x, y] H (fun v H' => (∃ b, v = .bl b) ∧ Q v H') E
theorem op_own {X : Cx} {CX : CXT} {C f : Addr} {fd : FuncData} {ps : List Str} {sp : Sp} {E : XK} {n : Nat} (F : FnOk X.prog X.w X.K X.mg X.base CX n f fd ps sp)
    (hr : Room n X.A) (hs : Meth X.K C "__eq__" f) (hb : Binds X.K fd ps []) (hx : Passes CX X E) : OpR X (compareOp .Eq) (rOwn C sp E) := by
  intro pins s σ H x y v u Q I rx ry hq
  obtain ⟨⟨a, dx, fs, rfl, ha⟩, ⟨b, dy, gs, rfl, hb'⟩, hsp⟩ := hq
  show wpAny (model X.prog X.w) X.A (richCompare .Eq v u) (EP X pins σ Q) X.xe s
  cases rx
  cases ry
  obtain ⟨mA, J, _⟩ := ins_get I.hok ha
  obtain ⟨mB, J', _⟩ := ins_get I.hok hb'
  obtain ⟨od, J, _⟩ := J.look
  obtain ⟨od', J', _⟩ := J'.look
  obtain ⟨m, hF⟩ := I.fr
  refine PySem.W.cmp_K (op := .Eq) (tb := .ref C) hr.units0 hF I.ok.mod.kin J J'.type (by simp [PySem.W.notFirst]) hs.at_ hs.fn ?_
  have hl := F.len _ _ _ _ hsp
  have r2 : Vals [V.ref a, V.ref b] [Value.ref a, Value.ref b] := .cons rfl (.cons rfl .nil)
  refine wpAny_call (codeAny_mono (F.run X.A X.stack s H ⟨[.ref a, .ref b], []⟩ [.ref a, .ref b] [.ref a, .ref b] _ E hr I.env0 (by
    have := hb s [.ref a, .ref b] I.kIn (by simpa using hl)
    simpa using this) r2 hsp) fun r s' hq => ?_)
  cases r with
  | error e => exact hx pins σ H s e s' I hq
  | ok fl =>
    cases fl with
    | ret w =>
      have q := I.after hq
      obtain ⟨z, H', I', rz, ⟨c, rfl⟩, q⟩ := q
      cases rz
      exact ⟨.bl c, H', I', rfl, q⟩
    | next => exact False.elim hq
    | brk => exact False.elim hq
    | cont => exact False.elim hq
theorem XR.own {K : PySem.W.Frag} {C : Addr} {p : PSp} {E : XK} {x y : D} {M : Mem} {k : D → Mem → Prop} {fs gs : List (Str × D)} (mo : MonoP p) (hx : InAt M x C fs) (hy : InAt M y C gs)
    (h : p [x, y] (fun r => (∃ b, r = .bl b) ∧ k r M) (fun _ _ => False)) : XR K (rOwn C (spD K 2 (pur p)) E) x y M k := fun F H v u s r1 r2 Q g => by
  obtain ⟨a, dx, vs, rfl, h1, _⟩ := hx.get s r1
  obtain ⟨b, dy, us, rfl, h2, _⟩ := hy.get s r2
  have hM : M ++ [] = M := List.append_nil M
  refine ⟨⟨a, dx, vs, rfl, h1⟩, ⟨b, dy, us, rfl, h2⟩, ?_⟩
  refine spD_use (Mr := M) (Mc := []) (k := fun r M' => (∃ b, r = .bl b) ∧ k r M') (x := fun _ _ _ => False) (by rw [hM]; exact s) (.cons r1 (.cons r2 .nil)) rfl ⟨rfl, ?_⟩ ?_ ?_ (mo.pur _ _)
  · refine mo _ _ _ _ _ (fun r q => ?_) (fun c f q => q) h
    show _ ∧ k r (M ++ [])
    rw [hM]
    exact q
  · rw [hM]
    intro d M' w F' H' n rr q
    obtain ⟨⟨b, rfl⟩, q⟩ := q
    cases rr
    exact ⟨⟨b, rfl⟩, g _ M' _ F' H' n (.bl b) q⟩
  · exact fun _ _ _ _ _ _ _ z => z.elim
theorem kbnN {K : PySem.W.Frag} {x qual : Str} {params : Arguments} {body : List Stmt} {scope : Scope} {kws : List (Str × V)} {f : Addr} {fd : FuncData} {ps : List Str} {n : Nat} {ks : List Str} (F : FunD K x qual params body scope [] kws f fd)
    (h : ∀ (kV doc pm : Value) (an : Option Addr) (cdv ct : Value) (us ws : List Value), us.length = n → ws.length = ks.length → bindArgs (PySem.W.fnOf x qual params body scope .none kV doc pm an cdv ct) ⟨us, ks.zip ws⟩ = pure (ps.zip (us ++ ws))) :
    KBn K fd ps n ks (fun us ws => us ++ ws) (fun us ws => us ++ ws) := by
  obtain ⟨oc, od, dV, kV, doc, pm, an, cdv, ct, osl, rfl, lk, hcd, hD, hK⟩ := F.ex
  rcases hD with ⟨_, rfl⟩ | ⟨e, _⟩
  · exact ⟨fun s us ws _ l1 l2 => .of_eq (h kV doc pm an cdv ct us ws l1 l2), fun r1 r2 => r1.append r2⟩
  · exact absurd rfl e
end DL

namespace DL
open PySem PySem.Spec PyProof.Rows L2 SX TL

/-! ### texts as lists of codes -/
def spl1 (c : Nat) (l : List Nat) : List (List Nat) := TL.spl [c] 0 [] l
theorem split_c {c : Nat} (h : c < 256) (l : List Nat) : Txt.split (S l) (S [c]) = (spl1 c l).map S := SX.split_S (by simp) (by simp [h])
theorem spl1_two {c : Nat} {p : List Nat} (q : List Nat) (h : c ∉ p) : spl1 c (p ++ c :: q) = p :: spl1 c q := by
  have := TL.spl_part1 (s := c) (S := []) (p := p) (rest := q) (acc := []) h
  simpa [spl1] using this
theorem spl1_one {c : Nat} {p : List Nat} (h : c ∉ p) : spl1 c p = [p] := by
  have := TL.spl_last1 (s := c) (S := []) (p := p) (acc := []) h
  simpa [spl1] using this
theorem spl1_join {c : Nat} {ps : List (List Nat)} (hne : ps ≠ []) (h : ∀ p ∈ ps, c ∉ p) : spl1 c (TL.joinL [c] ps) = ps := SX.spl_join hne h
theorem splA (c : Nat) : ∀ (l acc : List Nat), TL.spl [c] 0 acc l ≠ [] ∧ (TL.spl [c] 0 acc l).length ≤ l.length + 1 ∧ ∀ p ∈ TL.spl [c] 0 acc l, p.length ≤ acc.length + l.length
  | [], acc => by
    rw [TL.spl_nil]
    exact ⟨by simp, by simp, by simp⟩
  | d :: l, acc => by
    cases e : TL.pre [c] (d :: l)
    · rw [TL.spl_miss e]
      obtain ⟨h1, h2, h3⟩ := splA c l (acc ++ [d])
      refine ⟨h1, ?_, fun p hp => ?_⟩
      · rw [List.length_cons]
        omega
      · have := h3 p hp
        rw [List.length_append] at this
        simp only [List.length_cons, List.length_nil] at this ⊢
        omega
    · rw [TL.spl_hit e]
      obtain ⟨h1, h2, h3⟩ := splA c l []
      refine ⟨by simp, ?_, fun p hp => ?_⟩
      · simp only [List.length_cons, List.length_nil] at h2 ⊢
        simpa using h2
      · rcases List.mem_cons.mp hp with rfl | hp
        · omega
        · have := h3 p hp
          simp only [List.length_cons, List.length_nil] at this ⊢
          omega
theorem spl1_ne (c : Nat) (l : List Nat) : spl1 c l ≠ [] := (splA c l []).1
theorem spl1_len (c : Nat) (l : List Nat) : (spl1 c l).length ≤ l.length + 1 := (splA c l []).2.1
theorem spl1_mem {c : Nat} {l p : List Nat} (h : p ∈ spl1 c l) : p.length ≤ l.length := by
  have := (splA c l []).2.2 p h
  simpa using this

/-! ### numbers -/
def digs (l : List Nat) : Bool := l.all fun c => decide (48 ≤ c) && decide (c ≤ 57)
def numOf (l : List Nat) : Option Nat := if 1 ≤ l.length ∧ l.length ≤ 60 ∧ digs l = true then if l.head? = some 48 ∧ l ≠ [48] then none else some (NumText.digitsVal l) else none
def intL (i : Int) : List Nat := if i < 0 then 45 :: TL.numL i.natAbs else TL.numL i.natAbs
theorem toString_S (i : Int) : Str.ofString (toString i) = S (intL i) := by
  unfold intL
  cases i with
  | ofNat n =>
    rw [if_neg (by simp)]
    exact SX.num_S n
  | negSucc n =>
    rw [if_pos (Int.negSucc_lt_zero n)]
    have e : (toString (Int.negSucc n) : String) = "-" ++ toString (((n + 1 : Nat)) : Int) := rfl
    refine TL.ext_tl ?_
    rw [TL.tl_ofString, e, String.toList_append, List.map_append]
    have h2 := TL.tl_num (n + 1)
    rw [TL.tl_ofString] at h2
    rw [h2]
    rfl
theorem numL_head {n : Nat} : 0 < n → (TL.numL n).head? ≠ some 48 := by
  induction n using Nat.strongRecOn with
  | _ n ih =>
    intro h0
    by_cases h : n < 10
    · rw [TL.numL_lt h]
      simp
      omega
    · rw [TL.numL_step (by omega)]
      have := ih (n / 10) (by omega) (by omega)
      cases e : TL.numL (n / 10) with
      | nil => exact absurd e (TL.numL_ne _)
      | cons a l =>
        rw [e] at this
        simpa using this
theorem digs_numL (n : Nat) : digs (TL.numL n) = true := by
  have := TL.numL_digits n
  rw [digs, List.all_eq_true]
  intro c hc
  have h := this c hc
  simp at h ⊢
  exact h
theorem numOf_numL {n : Nat} (h : n < 10 ^ 60) : numOf (TL.numL n) = some n := by
  have h1 : (TL.numL n).length ≤ 60 := TL.numL_len (by decide) h
  have h2 : 1 ≤ (TL.numL n).length := List.length_pos_iff.mpr (TL.numL_ne n)
  unfold numOf
  rw [if_pos ⟨h2, h1, digs_numL n⟩]
  have h3 : ¬ ((TL.numL n).head? = some 48 ∧ TL.numL n ≠ [48]) := by
    rintro ⟨ha, hb⟩
    by_cases h0 : 0 < n
    · exact numL_head h0 ha
    · have : n = 0 := by omega
      subst this
      exact hb rfl
  rw [if_neg h3, TL.numL_val]
theorem digitsVal_le : ∀ l : List Nat, digs l = true → ∀ a, l.foldl (fun acc c => acc * 10 + (c - 48)) a < (a + 1) * 10 ^ l.length
  | [], _, a => by simp
  | c :: l, h, a => by
    rw [digs, List.all_cons, Bool.and_eq_true] at h
    have h1 := digitsVal_le l h.2 (a * 10 + (c - 48))
    have hc : 48 ≤ c ∧ c ≤ 57 := by simpa using h.1
    rw [List.foldl_cons, List.length_cons, Nat.pow_succ]
    refine Nat.lt_of_lt_of_le h1 ?_
    have : (a * 10 + (c - 48) + 1) ≤ (a + 1) * 10 := by omega
    calc (a * 10 + (c - 48) + 1) * 10 ^ l.length ≤ ((a + 1) * 10) * 10 ^ l.length := Nat.mul_le_mul_right _ this
      _ = (a + 1) * (10 ^ l.length * 10) := by rw [Nat.mul_assoc, Nat.mul_comm 10]
theorem numOf_lt {l : List Nat} {n : Nat} (h : numOf l = some n) : n < 10 ^ 60 := by
  unfold numOf at h
  split at h
  · rename_i hc
    split at h
    · cases h
    · cases h
      have := digitsVal_le l hc.2.2 0
      refine Nat.lt_of_lt_of_le this ?_
      rw [Nat.zero_add, Nat.one_mul]
      exact Nat.pow_le_pow_right (by decide) hc.2.1
  · cases h
theorem numOf_B {l : List Nat} {n : Nat} (h : numOf l = some n) : B 200 (n : Int) := by
  have := numOf_lt h
  show (n : Int).natAbs < 2 ^ 200
  have e : (10 : Nat) ^ 60 < 2 ^ 200 := by decide
  omega

/-! ### fractions -/
def isNeg (l : List Nat) : Bool := decide (l.head? = some 45)
def bareOf (l : List Nat) : List Nat := if isNeg l then l.tail else l
def fracN (neg : Bool) : List (Option Nat) → Option Rat
  | [some n] => if neg = true ∧ n = 0 then none else some (Rat.divInt (if neg then -(n : Int) else n) 1)
  | [some n, some d] => if d < 2 then none else if neg = true ∧ n = 0 then none else if Int.gcd (if neg then -(n : Int) else n) d = 1 then some (Rat.divInt (if neg then -(n : Int) else n) d) else none
  | _ => none
def fracOf (l : List Nat) : Option Rat := fracN (isNeg l) ((spl1 47 (bareOf l)).map numOf)
def fracL (q : Rat) : List Nat := if q.den = 1 then intL q.num else intL q.num ++ 47 :: TL.numL q.den
theorem numL_notin {n c : Nat} (h : c < 48 ∨ 57 < c) : c ∉ TL.numL n := TL.numL_free h
theorem intL_free {i : Int} {c : Nat} (h : c ≠ 45) (h2 : c < 48 ∨ 57 < c) : c ∉ intL i := by
  unfold intL
  split
  · simp [h, numL_notin h2]
  · exact numL_notin h2
theorem fracL_free {q : Rat} {c : Nat} (h : c ≠ 45) (h1 : c ≠ 47) (h2 : c < 48 ∨ 57 < c) : c ∉ fracL q := by
  unfold fracL
  split
  · exact intL_free h h2
  · simp [h1, numL_notin h2, intL_free (i := q.num) h h2]
theorem isNeg_numL (n : Nat) (r : List Nat) : isNeg (TL.numL n ++ r) = false := by
  cases e : TL.numL n with
  | nil => exact absurd e (TL.numL_ne _)
  | cons a l =>
    have hm : a ∈ TL.numL n := by rw [e]; exact List.mem_cons_self ..
    have : a ≠ 45 := fun z => numL_notin (n := n) (c := 45) (Or.inl (by decide)) (z ▸ hm)
    simp [isNeg, this]
theorem fracOf_fracL {q : Rat} (hn : q.num.natAbs < 10 ^ 60) (hd : q.den < 10 ^ 60) : fracOf (fracL q) = some q := by
  have key : ∀ r : List Nat, (q.num < 0 → isNeg (intL q.num ++ r) = true ∧ bareOf (intL q.num ++ r) = TL.numL q.num.natAbs ++ r) ∧ (¬ q.num < 0 → isNeg (intL q.num ++ r) = false ∧ bareOf (intL q.num ++ r) = TL.numL q.num.natAbs ++ r) := by
    intro r
    refine ⟨fun h => ?_, fun h => ?_⟩
    · unfold intL
      rw [if_pos h]
      exact ⟨rfl, rfl⟩
    · unfold intL
      rw [if_neg h]
      refine ⟨isNeg_numL _ _, ?_⟩
      unfold bareOf
      rw [isNeg_numL]
      rfl
  have hneg : ∃ neg : Bool, (neg = true ↔ q.num < 0) ∧ ∀ r, isNeg (intL q.num ++ r) = neg ∧ bareOf (intL q.num ++ r) = TL.numL q.num.natAbs ++ r := by
    by_cases h : q.num < 0
    · exact ⟨true, by simp [h], fun r => (key r).1 h⟩
    · exact ⟨false, by simp [h], fun r => (key r).2 h⟩
  obtain ⟨neg, hi, hr⟩ := hneg
  have hval : (if neg then -(q.num.natAbs : Int) else (q.num.natAbs : Int)) = q.num := by
    cases neg
    · have : ¬ q.num < 0 := fun z => Bool.noConfusion (hi.mpr z)
      simp
      omega
    · have := hi.mp rfl
      simp
      omega
  have h0 : ¬ (neg = true ∧ q.num.natAbs = 0) := by
    rintro ⟨a, b⟩
    have := hi.mp a
    omega
  unfold fracL fracOf
  split
  · rename_i h1
    have h := hr []
    rw [List.append_nil, List.append_nil] at h
    rw [h.1, h.2, spl1_one (numL_notin (by decide)), List.map_cons, List.map_nil, numOf_numL hn]
    show (if _ then _ else _) = _
    rw [if_neg h0, hval]
    have e : Rat.divInt q.num 1 = Rat.divInt q.num (q.den : Int) := by rw [h1]; rfl
    rw [e, Rat.num_divInt_den]
  · rename_i h1
    have h := hr (47 :: TL.numL q.den)
    rw [h.1, h.2, spl1_two _ (numL_notin (by decide)), spl1_one (numL_notin (by decide)), List.map_cons, List.map_cons, List.map_nil, numOf_numL hn, numOf_numL hd]
    show (if _ then _ else _) = _
    have hp := den_pos q
    rw [if_neg (by omega), if_neg h0, hval, if_pos (gcd_num_den q), Rat.num_divInt_den]

def knotOf (l : List Nat) : Option Kn := match (spl1 58 l).map fracOf with
  | [some a, some b] => some (a, b)
  | _ => none
def knotL (k : Kn) : List Nat := fracL k.1 ++ 58 :: fracL k.2
/-- numerators and denominators of at most 60 digits -/
def Short (q : Rat) : Prop := q.num.natAbs < 10 ^ 60 ∧ q.den < 10 ^ 60
theorem knotOf_knotL {k : Kn} (h1 : Short k.1) (h2 : Short k.2) : knotOf (knotL k) = some k := by
  unfold knotOf knotL
  rw [spl1_two _ (fracL_free (by decide) (by decide) (by decide)), spl1_one (fracL_free (by decide) (by decide) (by decide)), List.map_cons, List.map_cons, List.map_nil, fracOf_fracL h1.1 h1.2, fracOf_fracL h2.1 h2.2]
theorem knotL_free {k : Kn} {c : Nat} (h : c ≠ 45) (h1 : c ≠ 47) (h3 : c ≠ 58) (h2 : c < 48 ∨ 57 < c) : c ∉ knotL k := by
  unfold knotL
  simp [h3, fracL_free (q := k.1) h h1 h2, fracL_free (q := k.2) h h1 h2]
def allSome {α : Type} : List (Option α) → Option (List α)
  | [] => some []
  | none :: _ => none
  | some a :: r => (allSome r).map (a :: ·)
theorem allSome_map {α : Type} (xs : List α) : allSome (xs.map some) = some xs := by
  induction xs with
  | nil => rfl
  | cons a r ih => rw [List.map_cons, allSome, ih]; rfl
theorem allSome_iff {α : Type} : ∀ {xs : List (Option α)} {ys : List α}, allSome xs = some ys ↔ xs = ys.map some
  | [], ys => by
    cases ys <;> simp [allSome]
  | none :: r, ys => by
    cases ys <;> simp [allSome]
  | some a :: r, ys => by
    rw [allSome, Option.map_eq_some_iff]
    refine ⟨fun ⟨z, h1, h2⟩ => ?_, fun h => ?_⟩
    · rw [← h2, List.map_cons, allSome_iff.mp h1]
    · cases ys with
      | nil => simp at h
      | cons b ys =>
        rw [List.map_cons] at h
        injection h with h1 h2
        injection h1 with h1
        exact ⟨ys, allSome_iff.mpr h2, by rw [h1]⟩
theorem allSome_none {α : Type} : ∀ {xs : List (Option α)}, allSome xs = none ↔ none ∈ xs
  | [] => by simp [allSome]
  | none :: r => by simp [allSome]
  | some a :: r => by
    rw [allSome, Option.map_eq_none_iff, allSome_none]
    simp
def knotsOf (ws : List (List Nat)) : Option (List Kn) := if ws = [] then none else allSome (ws.map knotOf)
def tabL (ks : List Kn) : List Nat := TL.joinL [32] (ks.map knotL)
theorem knotsOf_tabL {ks : List Kn} (hne : ks ≠ []) (h : ∀ k ∈ ks, Short k.1 ∧ Short k.2) : knotsOf (spl1 32 (tabL ks)) = some ks := by
  unfold tabL
  rw [spl1_join (by simpa using hne) (by
    intro p hp
    obtain ⟨k, _, rfl⟩ := List.mem_map.mp hp
    exact knotL_free (by decide) (by decide) (by decide) (by decide))]
  unfold knotsOf
  rw [if_neg (by simpa using hne), List.map_map]
  have e : ks.map (knotOf ∘ knotL) = ks.map some := List.map_congr_left fun k hk => knotOf_knotL (h k hk).1 (h k hk).2
  rw [e, allSome_map]
end DL
namespace DL
open PySem PySem.Spec PyProof.Rows L2 SX TL
theorem intL_len {i : Int} (h : i.natAbs < 10 ^ 60) : (intL i).length ≤ 61 := by
  have := TL.numL_len (k := 60) (by decide) h
  unfold intL
  split
  · rw [List.length_cons]; omega
  · omega
theorem fracL_len {q : Rat} (h : Short q) : (fracL q).length ≤ 122 := by
  have h1 := intL_len h.1
  have h2 := TL.numL_len (k := 60) (by decide) h.2
  unfold fracL
  split
  · omega
  · rw [List.length_append, List.length_cons]; omega
theorem knotL_len {k : Kn} (h1 : Short k.1) (h2 : Short k.2) : (knotL k).length ≤ 245 := by
  have h1 := fracL_len h1
  have h2 := fracL_len h2
  unfold knotL
  rw [List.length_append, List.length_cons]; omega
theorem joinL_len (c : Nat) : ∀ ps : List (List Nat), (TL.joinL [c] ps).length ≤ (ps.map (·.length)).sum + ps.length
  | [] => by simp [TL.joinL]
  | [p] => by simp [TL.joinL]
  | p :: q :: ps => by
    have := joinL_len c (q :: ps)
    simp only [TL.joinL, List.map_cons, List.sum_cons, List.length_cons, List.length_append, List.length_nil] at this ⊢
    omega
theorem sum_le {n : Nat} : ∀ {ps : List Nat}, (∀ p ∈ ps, p ≤ n) → ps.sum ≤ n * ps.length
  | [], _ => by simp
  | p :: ps, h => by
    have h1 := h p (List.mem_cons_self ..)
    have h2 := sum_le (ps := ps) fun q hq => h q (List.mem_cons_of_mem _ hq)
    rw [List.sum_cons, List.length_cons, Nat.mul_succ]
    omega
theorem tabL_len {ks : List Kn} (h : ∀ k ∈ ks, Short k.1 ∧ Short k.2) : (tabL ks).length ≤ 246 * ks.length := by
  have h1 := joinL_len 32 (ks.map knotL)
  have h2 : ((ks.map knotL).map (·.length)).sum ≤ 245 * ((ks.map knotL).map (·.length)).length := sum_le fun p hp => by
    obtain ⟨q, hq, rfl⟩ := List.mem_map.mp hp
    obtain ⟨k, hk, rfl⟩ := List.mem_map.mp hq
    exact knotL_len (h k hk).1 (h k hk).2
  rw [List.length_map, List.length_map] at h2
  rw [List.length_map] at h1
  unfold tabL
  omega
theorem Short.B {q : Rat} (h : Short q) : BQ 200 q := by
  have e : (10 : Nat) ^ 60 < 2 ^ 200 := by decide
  have h1 := h.1
  have h2 := h.2
  refine ⟨?_, ?_⟩
  · show q.num.natAbs < 2 ^ 200
    omega
  · show (q.den : Int).natAbs < 2 ^ 200
    omega
end DL
namespace DL
open PySem PySem.Spec PyProof.Rows L2 SX TL
section
variable {C : Cfg} {ds : DS} {M : Mem} {k : D → Mem → Prop} {te : TE}
open Classical in
theorem XE.lcE {wi : TI} {g : TG} {tt : TT} {vs : List Nat} {α : Type} (e : α → D) (f : α → Option D) (hi : ∀ a b, e a = e b → a = b) (h : XI C wi ds M fun xs M1 => ∃ ys : List α, xs = ys.map e ∧ ys.length ≤ 16000000 ∧
    (∀ y, y ∈ ys → XG C.nox g (e y) (dwipe ds vs) M1 vs fun ds2 M2 => XT C.nox tt ds2 M2 fun b M3 => (b = true → XE C.nox te ds2 M3 fun z M4 => f y = some z ∧ M4 = M1) ∧ (b = false → f y = none ∧ M3 = M1)) ∧
    k (.lst (ys.filterMap f)) M1) : XE C (tLc wi g tt te vs) ds M k := by
  have hf : ∀ y, (fun d : D => if h : ∃ a, e a = d then f h.choose else none) (e y) = f y := fun y => by
    have hx : ∃ a, e a = e y := ⟨y, rfl⟩
    show (if h : ∃ a, e a = e y then f h.choose else none) = f y
    rw [dif_pos hx, hi _ _ hx.choose_spec]
  refine XE.lc (fun d => if h : ∃ a, e a = d then f h.choose else none) fun F H σ s e' c R gR => h F H σ s e' c R fun xs M1 J F1 H1 n1 it h1 => gR xs M1 J F1 H1 n1 it ?_
  obtain ⟨ys, rfl, hl, hs, hk⟩ := h1
  refine ⟨by rw [List.length_map]; exact hl, fun x hx => ?_, ?_⟩
  · obtain ⟨y, hy, rfl⟩ := List.mem_map.mp hx
    have q := hs y hy
    have e3 : (if h : ∃ a, e a = e y then f h.choose else none) = f y := hf y
    rw [e3]
    exact q
  · have e2 : List.filterMap (fun d : D => if h : ∃ a, e a = d then f h.choose else none) (ys.map e) = ys.filterMap f := by
      rw [List.filterMap_map]
      exact congrArg (fun z => List.filterMap z ys) (funext hf)
    rw [e2]
    exact hk
theorem XE.lcMap {wi : TI} {g : TG} {vs : List Nat} {α : Type} (e : α → D) (f : α → D) (hi : ∀ a b, e a = e b → a = b) (h : XI C wi ds M fun xs M1 => ∃ ys : List α, xs = ys.map e ∧ ys.length ≤ 16000000 ∧
    (∀ y, y ∈ ys → XG C.nox g (e y) (dwipe ds vs) M1 vs fun ds2 M2 => XE C.nox te ds2 M2 fun z M4 => z = f y ∧ M4 = M1) ∧
    k (.lst (ys.map f)) M1) : XE C (tLc wi g tYes te vs) ds M k :=
  XE.lcE e (fun y => some (f y)) hi fun F H σ s e' c R gR => h F H σ s e' c R fun xs M1 J F1 H1 n1 it h1 => gR xs M1 J F1 H1 n1 it (by
    obtain ⟨ys, h1, h2, h3, h4⟩ := h1
    refine ⟨ys, h1, h2, fun y hy F H σ v s e c r Q g => h3 y hy F H σ v s e c r Q fun d M' σ' F' H' n e2 hl hw q => g d M' σ' F' H' n e2 hl hw ?_, ?_⟩
    · exact fun F H σ s e c Q g => g true _ _ _ (Nxt.refl s) ⟨fun _ F H σ s e c Q g => q F H σ s e c Q fun d M' v F' H' n r z => g d M' v F' H' n r ⟨by rw [z.1], z.2⟩, fun z => by cases z⟩
    · have e2 : ys.filterMap (fun y => some (f y)) = ys.map f := by simp
      rw [e2]
      exact h4)
end
end DL
namespace DL
open PySem PySem.Spec PyProof.Rows L2 SX TL
def dO {α : Type} (e : α → D) : Option α → D
  | none => .non
  | some a => e a
section
variable {K : PySem.W.Frag} {M : Mem} {k : D → Mem → Prop} {α : Type} {e : α → D} {n : Nat}
theorem dO_ok (h : ∀ a, okD n (e a) = true) (o : Option α) : okD n (dO e o) = true := by
  cases o with
  | none => cases n <;> rfl
  | some a => exact h a
theorem none_in (he : ∀ a, PyData.eqv (e a).py .none = false) : ∀ xs : List (Option α), ((pyAll (xs.map (dO e))).any fun z => PyData.eqv z .none) = xs.any Option.isNone
  | [] => rfl
  | none :: r => by
    rw [List.map_cons, pyAll, List.any_cons, List.any_cons]
    rfl
  | some a :: r => by
    rw [List.map_cons, pyAll, List.any_cons, List.any_cons, none_in he r]
    have : PyData.eqv (dO e (some a)).py .none = false := he a
    rw [this]
    rfl
theorem any_none : ∀ xs : List (Option α), xs.any Option.isNone = (allSome xs).isNone
  | [] => rfl
  | none :: r => rfl
  | some a :: r => by
    rw [List.any_cons, any_none r, allSome]
    cases allSome r <;> rfl
theorem XR.inO {y : D} {xs : List (Option α)} (hy : SqAt M y (xs.map (dO e))) (hok : ∀ a, okD n (e a) = true) (hn : n + 1 ≤ 64) (he : ∀ a, PyData.eqv (e a).py .none = false) (h : k (.bl (xs.any Option.isNone)) M) : XR K (rInV K) .non y M k := by
  rw [← none_in he] at h
  exact XR.inD (n := 0) (m := n + 1) .self hy rfl (okD_map (dO_ok hok) xs) (by decide) hn h
theorem XR.niO {y : D} {xs : List (Option α)} (hy : SqAt M y (xs.map (dO e))) (hok : ∀ a, okD n (e a) = true) (hn : n + 1 ≤ 64) (he : ∀ a, PyData.eqv (e a).py .none = false) (h : k (.bl (!xs.any Option.isNone)) M) : XR K (rNiV K) .non y M k := by
  rw [← none_in he] at h
  exact XR.niD (n := 0) (m := n + 1) .self hy rfl (okD_map (dO_ok hok) xs) (by decide) hn h
/-- is this list empty -/
theorem XR.ne_nil {xs : List D} {x : D} (hx : SeAt M x (.lst xs)) (ho : okD n (.lst xs) = true) (hn : n ≤ 64) {y : D} (hy : SeAt M y (.lst [])) (h : k (.bl (!decide (xs = []))) M) : XR K (rNeU K) x y M k := by
  refine XR.neD (n := n) (m := 1) hx hy ho rfl hn (by decide) ?_
  have e : PyData.eqv (D.lst xs).py (D.lst []).py = decide (xs = []) := by
    cases xs <;> rfl
  rw [e]
  exact h
theorem XR.ne_nilT {xs : List D} {x : D} (hx : SeAt M x (.tup xs)) (ho : okD n (.tup xs) = true) (hn : n ≤ 64) {y : D} (hy : SeAt M y (.tup [])) (h : k (.bl (!decide (xs = []))) M) : XR K (rNeU K) x y M k := by
  refine XR.neD (n := n) (m := 1) hx hy ho rfl hn (by decide) ?_
  have e : PyData.eqv (D.tup xs).py (D.tup []).py = decide (xs = []) := by
    cases xs <;> rfl
  rw [e]
  exact h
end
theorem cutS_head {l : List Nat} : cutS (S l) none (some 1) = S (l.take 1) := by
  rw [← sliceText_cut]
  exact SX.slice_to (i := 1) (by decide)
theorem cutS_tail {l : List Nat} : cutS (S l) (some 1) none = S (l.drop 1) := by
  rw [← sliceText_cut]
  exact SX.slice_from (i := 1) (by decide)
theorem S_eq {a b : List Nat} : decide (S a = S b) = decide (a = b) := by
  rw [decide_eq_decide]
  exact ⟨SX.S_inj, fun h => by rw [h]⟩
theorem digs_int {l : List Nat} {n : Nat} (h : numOf l = some n) : intText? (S l) = some (n : Int) := by
  unfold numOf at h
  split at h
  · rename_i hc
    split at h
    · cases h
    · cases h
      exact SX.int_S hc.2.2 (List.length_pos_iff.mp hc.1) (by omega)
  · cases h
end DL
namespace DL
open PySem SX
theorem lenS {a : List Nat} {n : Nat} (h : a.length ≤ n) : (S a).length ≤ n := Nat.le_trans (Nat.le_of_eq (SX.S_len a)) h
theorem cat1 (a : List Nat) : Str.empty ++ S a = S a := (SX.S_cat [] a).trans (by rw [List.nil_append])
theorem cat2 (a b : List Nat) : Str.empty ++ S a ++ S b = S (a ++ b) := by rw [cat1, SX.S_cat a b]
theorem cat3 (a b c : List Nat) : Str.empty ++ S a ++ S b ++ S c = S (a ++ (b ++ c)) := by rw [cat2, SX.S_cat (a ++ b) c, List.append_assoc]
end DL
namespace DL
open PySem SX
def lDigits : Str := "0123456789"
theorem dig_iff (c : Nat) : c ∈ lDigits.cps.toList ↔ 48 ≤ c ∧ c ≤ 57 := by
  have e : lDigits.cps.toList = [48,49,50,51,52,53,54,55,56,57] := rfl
  rw [e]
  simp only [List.mem_cons, List.not_mem_nil, or_false]
  omega
def badC (c : Nat) : Option D := if c ∈ lDigits.cps.toList then none else some (.str ⟨#[c]⟩)
theorem bad_nil (l : List Nat) : decide (l.filterMap badC = []) = digs l := by
  rw [Bool.eq_iff_iff, decide_eq_true_eq, digs, List.all_eq_true, List.filterMap_eq_nil_iff]
  refine forall_congr' fun c => forall_congr' fun _ => ?_
  unfold badC
  rw [Bool.and_eq_true, decide_eq_true_eq, decide_eq_true_eq, ← dig_iff]
  split <;> simp [*]
def Uni (l : List Nat) : Prop := ∀ c ∈ l, c < 0x110000
theorem bad_ok {l : List Nat} (hu : Uni l) : okD 1 (.lst (l.filterMap badC)) = true := by
  show (l.filterMap badC).all (okD 0) = true
  rw [List.all_eq_true]
  intro d hd
  obtain ⟨c, hc, h⟩ := List.mem_filterMap.mp hd
  unfold badC at h
  split at h
  · cases h
  · cases h
    have := hu c hc
    simpa [okD] using this
theorem mem_spl {c d : Nat} : ∀ (l acc : List Nat), ∀ p ∈ TL.spl [c] 0 acc l, d ∈ p → d ∈ acc ∨ d ∈ l
  | [], acc, p, hp, hd => by
    rw [TL.spl_nil] at hp
    rw [List.mem_singleton.mp hp] at hd
    exact .inl hd
  | e :: l, acc, p, hp, hd => by
    cases e1 : TL.pre [c] (e :: l)
    · rw [TL.spl_miss e1] at hp
      rcases mem_spl l _ p hp hd with h | h
      · rcases List.mem_append.mp h with h | h
        · exact .inl h
        · rw [List.mem_singleton.mp h]
          exact .inr (List.mem_cons_self ..)
      · exact .inr (List.mem_cons_of_mem _ h)
    · rw [TL.spl_hit e1] at hp
      rcases List.mem_cons.mp hp with rfl | hp
      · exact .inl hd
      · rcases mem_spl l _ p hp hd with h | h
        · cases h
        · exact .inr (List.mem_cons_of_mem _ h)
theorem Uni.spl {c : Nat} {l p : List Nat} (h : Uni l) (hp : p ∈ spl1 c l) : Uni p := fun d hd => by
  rcases mem_spl l [] p hp hd with z | z
  · cases z
  · exact h d z
theorem Uni.bare {l : List Nat} (h : Uni l) : Uni (bareOf l) := fun d hd => by
  unfold bareOf at hd
  split at hd
  · exact h d (List.mem_of_mem_tail hd)
  · exact h d hd
theorem bare_len (l : List Nat) : (bareOf l).length ≤ l.length := by
  unfold bareOf
  split
  · rw [List.length_tail]
    omega
  · exact Nat.le_refl _
theorem chr_inj (a b : Nat) (h : D.str ⟨#[a]⟩ = D.str ⟨#[b]⟩) : a = b := by
  injection h with h
  injection h with h
  simpa using h
theorem numOf_no {l : List Nat} (h : ¬ (1 ≤ l.length ∧ l.length ≤ 60 ∧ digs l = true)) : numOf l = none := if_neg h
theorem numOf_zero {l : List Nat} (h : l.head? = some 48) (h2 : l ≠ [48]) : numOf l = none := by
  unfold numOf
  split
  · rw [if_pos ⟨h, h2⟩]
  · rfl
theorem numOf_some {l : List Nat} (h : 1 ≤ l.length ∧ l.length ≤ 60 ∧ digs l = true) (h2 : ¬ (l.head? = some 48 ∧ l ≠ [48])) : ∃ n, numOf l = some n := ⟨_, by
  unfold numOf
  rw [if_pos h, if_neg h2]⟩
end DL
namespace DL
open L2
section
variable {C : Cfg} {ds : DS} {M : Mem} {k : D → Mem → Prop} {te : TE}
theorem XE.is (d0 : D) (h : XE C te ds M fun d M' => d = d0 ∧ M' = M) (q : k d0 M) : XE C te ds M k := fun F H σ s e c Q g =>
  h F H σ s e c Q fun d M' v F' H' n r z => by
    obtain ⟨rfl, rfl⟩ := z
    exact g _ _ v F' H' n r q
theorem XT.is {tt : TT} {k : Bool → Mem → Prop} (b0 : Bool) (h : XT C tt ds M fun b M' => b = b0 ∧ M' = M) (q : k b0 M) : XT C tt ds M k := fun F H σ s e c Q g =>
  h F H σ s e c Q fun d M' F' H' n z => by
    obtain ⟨rfl, rfl⟩ := z
    exact g _ _ F' H' n q
end
theorem take_neg (l : List Nat) : decide (l.take 1 = [45]) = isNeg l := by
  unfold isNeg
  cases l with
  | nil => rfl
  | cons c r => simp
theorem bare_pos {l : List Nat} (h : isNeg l = false) : bareOf l = l := by unfold bareOf; rw [h]; rfl
theorem bare_neg {l : List Nat} (h : isNeg l = true) : bareOf l = l.drop 1 := by unfold bareOf; rw [h, if_pos rfl, List.drop_one]
theorem bare_eq (l : List Nat) : decide (bareOf l = l) = !isNeg l := by
  cases h : isNeg l
  · rw [bare_pos h]; simp
  · rw [bare_neg h]
    cases l with
    | nil => simp [isNeg] at h
    | cons c r =>
      have : ¬ r = c :: r := fun z => by have := congrArg List.length z; simp at this
      simpa using this
end DL
namespace DL
theorem map_map' {α β γ : Type} (f : β → γ) (g : α → β) (xs : List α) : (xs.map g).map f = xs.map fun x => f (g x) := List.map_map ..
end DL
namespace DL
theorem fracN_long {b : Bool} {ns : List (Option Nat)} (h : 2 < ns.length) : fracN b ns = none := by
  unfold fracN
  split
  · simp at h
  · simp at h
  · rfl
theorem fracN_int {b : Bool} {n : Nat} : fracN b [some n] = if b = true ∧ n = 0 then none else some (Rat.divInt (if b then -(n : Int) else n) 1) := rfl
theorem fracN_two {b : Bool} {n d : Nat} : fracN b [some n, some d] = if d < 2 then none else if b = true ∧ n = 0 then none else if Int.gcd (if b then -(n : Int) else n) d = 1 then some (Rat.divInt (if b then -(n : Int) else n) d) else none := rfl
theorem dQ_of1 (n : Int) : dQ (Rat.divInt n 1) = .tup [.int n, .int 1] := dQ_of (by decide) (by simp)
end DL
namespace DL
open PySem SX
def isK (l : List Nat) : Bool := true
theorem eqv_dQ_none (q : Rat) : PyData.eqv (dQ q).py .none = false := rfl
theorem eqv_dKn_none (q : Kn) : PyData.eqv (dKn q).py .none = false := rfl
theorem knotOf_eq (l : List Nat) : (((spl1 58 l).map fracOf).length = 2 ∧ ((spl1 58 l).map fracOf).any Option.isNone = false ∧ ∃ a b, (spl1 58 l).map fracOf = [some a, some b] ∧ knotOf l = some (a, b)) ∨
    (¬ (((spl1 58 l).map fracOf).length = 2 ∧ ((spl1 58 l).map fracOf).any Option.isNone = false) ∧ knotOf l = none) := by
  unfold knotOf
  generalize (spl1 58 l).map fracOf = xs
  match xs with
  | [] => exact .inr ⟨by simp, rfl⟩
  | [none] => exact .inr ⟨by simp, rfl⟩
  | [some _] => exact .inr ⟨by simp, rfl⟩
  | [none, _] => exact .inr ⟨by simp, rfl⟩
  | [some _, none] => exact .inr ⟨by simp, rfl⟩
  | [some a, some b] => exact .inl ⟨rfl, rfl, a, b, rfl, rfl⟩
  | _ :: _ :: _ :: _ =>
    refine .inr ⟨by simp, ?_⟩
    split
    · simp_all
    · rfl
theorem knotL_uni {k : Kn} : Uni (knotL k) := fun c hc => by
  by_cases h : c ≠ 45 ∧ c ≠ 47 ∧ c ≠ 58 ∧ (c < 48 ∨ 57 < c)
  · exact absurd hc (knotL_free h.1 h.2.1 h.2.2.1 h.2.2.2)
  · omega
theorem joinL_mem {c d : Nat} : ∀ {ps : List (List Nat)}, d ∈ TL.joinL [c] ps → d = c ∨ ∃ p ∈ ps, d ∈ p
  | [], h => by simp [TL.joinL] at h
  | [p], h => .inr ⟨p, List.mem_cons_self .., by simpa [TL.joinL] using h⟩
  | p :: q :: ps, h => by
    simp only [TL.joinL, List.mem_append, List.mem_cons, List.not_mem_nil, or_false] at h
    rcases h with h | h
    · exact .inr ⟨p, List.mem_cons_self .., h⟩
    · rcases h with h | h
      · exact .inl h
      · rcases joinL_mem (ps := q :: ps) h with h | ⟨r, hr, h⟩
        · exact .inl h
        · exact .inr ⟨r, List.mem_cons_of_mem _ hr, h⟩
theorem tabL_uni {ks : List Kn} : Uni (tabL ks) := fun c hc => by
  rcases joinL_mem hc with rfl | ⟨p, hp, h⟩
  · decide
  · obtain ⟨k, _, rfl⟩ := List.mem_map.mp hp
    exact knotL_uni c h
end DL
namespace DL
open PySem SX
theorem dKn_inj (a b : Kn) (h : dKn a = dKn b) : a = b := dKn_py_inj (congrArg D.py h)
end DL

namespace DL
open PySem L2 SX
/-! ### the state of the laws' draws -/
abbrev kS (x : Str) : Key := .inr x
def stD (l : Addr) (cs : List Int) (r t : Int) : List (Key × D) := [(kS "large", .raw l), (kS "cells", .lst (cs.map D.int)), (kS "rest", .int r), (kS "turn", .int t)]
def stM (s l : Addr) (L cs : List Int) (r t : Int) : Mem := [(s, .dct (stD l cs r t)), (l, .lst (L.map D.int))]
structure StOk (L cs : List Int) (r t : Int) (n : Nat) : Prop where
  large : ∀ x ∈ L, 0 ≤ x
  cells : ∀ x ∈ cs, 0 ≤ x ∧ x < 2147483629
  rest : 0 ≤ r
  turn : 0 ≤ t ∧ t ≤ n
  bud : n ≤ 1000000000
  len : cs.length ≤ 1000
def IsSt (s l : Addr) (n : Nat) (M : Mem) : Prop := ∃ L cs r t, M = stM s l L cs r t ∧ StOk L cs r t n
theorem ne_str {a b : String} (h : (Str.ofString a == Str.ofString b) = false) : ¬ (kS (Str.ofString a) = kS (Str.ofString b)) := fun z => by
  injection z with z
  rw [z] at h
  simp at h
section
variable (l : Addr) (cs : List Int) (r t : Int)
theorem val_large : valD (stD l cs r t) (kS "large") = some (.raw l) := rfl
theorem val_cells : valD (stD l cs r t) (kS "cells") = some (.lst (cs.map D.int)) := rfl
theorem val_rest : valD (stD l cs r t) (kS "rest") = some (.int r) := rfl
theorem val_turn : valD (stD l cs r t) (kS "turn") = some (.int t) := rfl
theorem put_rest (r' : Int) : putDK (stD l cs r t) (kS "rest") (.int r') = stD l cs r' t := rfl
theorem put_turn (t' : Int) : putDK (stD l cs r t) (kS "turn") (.int t') = stD l cs r t' := rfl
end
theorem merge_st (l : Addr) (cs : List Int) (r t : Int) : mergeD (stD l cs r t) = stD l cs r t := rfl
theorem IsSt.more {s l : Addr} {n m : Nat} {M : Mem} (h : IsSt s l n M) (hn : n ≤ m) (hm : m ≤ 1000000000) : IsSt s l m M := by
  obtain ⟨L, cs, r, t, e, h⟩ := h
  exact ⟨L, cs, r, t, e, ⟨h.large, h.cells, h.rest, ⟨h.turn.1, by have := h.turn.2; omega⟩, hm, h.len⟩⟩
end DL
namespace DL
open PySem L2
theorem XS.monoN {C : Cfg} {ds : DS} {M : Mem} {t : TS} {P : Post} {J : DS → Mem → Prop} (h : XS C t ds M { P with nx := J }) (i : ∀ ds' M', J ds' M' → P.nx ds' M') : XS C t ds M P := fun F H σ s e c D f =>
  h F H σ s e c D ⟨fun ds' M' σ' F' H' n e' q => f.nx ds' M' σ' F' H' n e' (i _ _ q), f.rt, f.bk, f.ct⟩
theorem XS.cut {C : Cfg} {ds : DS} {M : Mem} {t u : TS} {P : Post} (J : DS → Mem → Prop) (h : XS C t ds M { P with nx := J }) (i : ∀ ds' M', J ds' M' → XS C u ds' M' P) : XS C (tSeq t u) ds M P :=
  XS.seq (XS.monoN (P := { P with nx := fun ds' M' => XS C u ds' M' P }) h i)
end DL

namespace DL
open PySem L2
section
variable {K : PySem.W.Frag} {mg : Str → Option Value} {h : Heap}
def fnT_mk (X : K.In h) (G : h.Ns mainGlobals mg) {x : Str} {st : Stmt} {f : Addr} {oc : Value} {od an : Option Addr} {osl : Array (Option Value)} {kV doc pm cdv ct : Value} (a : PySem.W.nsIn K mainGlobals x = some (some (.ref f)))
    (l : K.lookup f = some ⟨oc, od, .func (PySem.W.fnOf x x (defArgs st) (defBody st) (defScope st) .none kV doc pm an cdv ct), osl⟩) (c : PySem.W.codeIn K cdv x = true) (k : PySem.W.keepIn K (.ref f) = true) : FnT K mg x st [] [] :=
  ⟨f, _, ⟨⟨oc, od, .none, kV, doc, pm, an, cdv, ct, osl, rfl, l, c, .inl ⟨rfl, rfl⟩, .inl rfl⟩, k⟩, PySem.W.mg_of X G a⟩
def fnT_mkD (X : K.In h) (G : h.Ns mainGlobals mg) {x : Str} {st : Stmt} {f T : Addr} {oc tc : Value} {od an td : Option Addr} {osl tsl : Array (Option Value)} {kV doc pm cdv ct : Value} {its : Array Value} {n : Nat} {dvs : List V} (a : PySem.W.nsIn K mainGlobals x = some (some (.ref f)))
    (l : K.lookup f = some ⟨oc, od, .func (PySem.W.fnOf x x (defArgs st) (defBody st) (defScope st) (.ref T) kV doc pm an cdv ct), osl⟩) (c : PySem.W.codeIn K cdv x = true) (k : PySem.W.keepIn K (.ref f) = true)
    (lT : K.lookup T = some ⟨tc, td, .seq its n, tsl⟩) (rT : Vals dvs its.toList) (hd : dvs ≠ []) : FnT K mg x st dvs [] :=
  ⟨f, _, ⟨⟨oc, od, .ref T, kV, doc, pm, an, cdv, ct, osl, rfl, l, c, .inr ⟨hd, T, _, its.toList, n, rfl, lT, by simp, rT⟩, .inl rfl⟩, k⟩, PySem.W.mg_of X G a⟩
def meT_mk {C : Addr} {m qual : Str} {st : Stmt} {f : Addr} {oc : Value} {od an : Option Addr} {osl : Array (Option Value)} {kV doc pm cdv ct : Value} (a : PySem.W.findIn K (.ref C) m = some (some (.ref f))) (i : PySem.W.isFn K (.ref f) = true)
    (l : K.lookup f = some ⟨oc, od, .func (PySem.W.fnOf m qual (defArgs st) (defBody st) (defScope st) .none kV doc pm an cdv ct), osl⟩) (c : PySem.W.codeIn K cdv qual = true) (k : PySem.W.keepIn K (.ref f) = true) : MeT K C m qual st :=
  ⟨f, _, ⟨⟨oc, od, .none, kV, doc, pm, an, cdv, ct, osl, rfl, l, c, .inl ⟨rfl, rfl⟩, .inl rfl⟩, k⟩, ⟨a, i, k⟩⟩
theorem tup_mk {a : Addr} {td : Option Addr} {its : Array Value} {n : Nat} {tsl : Array (Option Value)} {ds : List D} {vs : List V} (l : K.lookup a = some ⟨.type "tuple", td, .seq its n, tsl⟩) (hz : its.size ≤ sizeLine) (r : Vals vs its.toList) (q : ∀ F, Reps K F ds vs) : ∀ F, Rep K F (.tup ds) (.ref a) := fun F =>
  .tup (.inr ⟨_, its, n, l, rfl, rfl, hz, r⟩) (q F)
theorem law_bind {x : Str} {st : Stmt} {f : Addr} {fd : FuncData} (F : FunD K "law" "law" (defArgs st) (defBody st) (defScope st) [] [] f fd)
    (hb : ∀ (kV doc pm : Value) (an : Option Addr) (cdv ct : Value) (us : List Value), us.length = [x].length → bindArgs (PySem.W.fnOf "law" "law" (defArgs st) (defBody st) (defScope st) .none kV doc pm an cdv ct) ⟨us, []⟩ = pure ([x].zip us)) (s : Shared) (u : Value) : BindsTo s fd ⟨[u], []⟩ [(x, u)] :=
  F.bindsA (ps := [x]) hb s [u] rfl
end
theorem reps_ints {K : PySem.W.Frag} {F : Hp} : ∀ ns : List Int, Reps K F (ns.map D.int) (ns.map V.int)
  | [] => .nil
  | z :: r => .cons (.int z) (reps_ints r)
def sp_law : DSp := fun ds M k _ => ∃ (v : D) (xs : List Int), ds = [v] ∧ M = [] ∧ WkAt v (xs.map D.int) ∧ xs.length ≤ 1000 ∧ ∀ M', k (.bl true) M'
theorem law_hsp {K : PySem.W.Frag} (H : Hp) (a : Addr) (ns : List Int) (hl : ns.length ≤ 1000) (hS : SqL K H a (ns.map V.int)) : spD K 1 sp_law [.ref a] H (fun v _ => v = .bl true) fun _ _ _ => False :=
  ⟨H, [], [.ro (ns.map D.int)], ⟨Ex.refl _, by simp, by simp [dom]⟩, .cons (.ro hS (reps_ints ns)) .nil, rfl, .ro (ns.map D.int), ns, rfl, rfl, .ro, hl, fun M' v F' H' n r => by cases r; rfl⟩
end DL
namespace DL
open PySem L2
theorem cx_no {P : Program} {w : World} {o : List Env} {H : Hp} {s : Shared} {u : Value} {s' : Shared} (c : L2.CX P w o H s (fun _ _ _ => False) u s') : False := by
  obtain ⟨a, B, H', cls, d, _, _, _, _, _, _, h⟩ := c
  first | exact h | exact h.2 | exact h.elim
end DL
namespace DL
open PySem
theorem kit_self {K : PySem.W.Frag} {t : Value} : PySem.W.kitOne K t t = some true := if_pos (beq_self_eq_true _)
end DL

namespace DL
open PySem PySem.Spec PyProof.Rows L2
/-! ### try: .. / except X as n: .. where the suite may hand the exception on to another name: behind the statement its object is tracked (exV) -/
theorem track {X : Cx} {pins : List (Addr × Obj)} {σ : L2.St} {H : Hp} {s : Shared} {a C : Addr} {d : Option Addr} {oe : Obj} (I : L2.Inv X pins σ H s)
    (at_ : s.heap.get? a = some oe) (zc : Zc (.ref C) d oe) (fl : ∃ vs, oe.data = .fields vs) (nH : H a = none)
    (n0 : ∀ o, X.s_0.heap.get? a = some o → a ∈ X.ex) (nl : a ≠ X.env.locals) (np : ∀ p ∈ X.pn ++ pins, p.1 ≠ a) : L2.Inv X pins σ (upd H a (exV a C d)) s := by
  have new : ObjOk X.prog X.w (upd H a (exV a C d)) s.heap a (exV a C d) :=
    ⟨⟨oe, at_, zc, fl⟩, ⟨oe, at_⟩, fun h1 h2 ⟨o, h, z, f⟩ k => ⟨o, k o h, z, f⟩⟩
  have other : ∀ b, b ≠ a → upd H a (exV a C d) b = H b := fun b hb => upd_ne hb
  have some_ne : ∀ b u, H b = some u → b ≠ a := fun b u h z => by
    rw [z, nH] at h
    cases h
  have start : ∀ b o, X.s_0.heap.get? b = some o → b ∉ X.ex → b ≠ a := fun b o h hx z => by
    subst z
    exact hx (n0 o h)
  exact
    { ok := I.ok, os := I.os, bare := I.bare, loc := I.loc, cell := I.cell, len := I.len
      base :=
        { keep := I.base.keep, slot := I.base.slot, there := I.base.there
          free := fun b o h h0 hx => (other b (start b o h hx)).trans (I.base.free b o h h0 hx)
          tups := fun b xs h => have q := I.base.tups b xs h; (other b (some_ne b _ q)).trans q
          frzs := fun b o u h => have q := I.base.frzs b o u h; (other b (some_ne b _ q)).trans q
          tbls := fun b ps h => let ⟨m, q⟩ := I.base.tbls b ps h; ⟨m, (other b (some_ne b _ q)).trans q⟩ }
      free := (other _ (Ne.symm nl)).trans I.free
      freeC := fun x c h => by
        refine (other c fun z => ?_).trans (I.freeC x c h)
        obtain ⟨v, o, g, gd⟩ := I.cell x c h
        obtain ⟨vs, e⟩ := fl
        rw [z, at_] at g
        cases g
        rw [e] at gd
        cases gd
      pin := fun p hp => have ⟨h1, h2, h3⟩ := I.pin p hp; ⟨h1, (other _ (np p hp)).trans h2, h3⟩
      hok := I.hok.laidN (fun _ _ z => z) nH new }
/-- what the clause 'except c as n' wishes, the exception being told of behind the statement -/
def wKeep (K : PySem.W.Frag) (c : Value) (i : Nat) (ts : Addr → Value → Option Addr → TS) (Wo : WX) (D : Ends) : WX := fun cls d σ H => ∃ b, PySem.W.exmOne K cls c = some b ∧
  (b = true → ∃ C : Addr, cls = .ref C ∧ ∀ a, H a = none → ts a cls d
    { nx := fun σ' H' => D.nx (σ'.set i none) (upd H' a (exV a C d)), rt := fun _ _ => False, bk := fun _ _ => False, ct := fun _ _ => False } (σ.set i (some (.ref a))) H) ∧ (b = false → Wo cls d σ H)
theorem ps_try_keep {X : Cx} {x n : Str} {c : Value} {i : Nat} {body suite : List Stmt} {b₀ : Stmt} {np pos pos' : Pos} {tb : WX → TS} {ts : Addr → Value → Option Addr → TS} {Wo : WX}
    (hs : X.stack = X.env :: X.outer) (hf : X.env.frame = some X.env.locals) (hN : X.N.Nodup) (hi : X.N[i]? = some n) (hln : X.env.kindOf n = some .local) (hc : Names X x c) (tk : Takes X Wo)
    (hb : ∀ (W : WX) (pn : List (Addr × Obj)) (xe : Value → Shared → Prop), Takes (X.tr pn xe) W → PassesOwn (model X.prog X.w) X.A X.env xe → PSs (X.tr pn xe) body (tb W))
    (hsu : ∀ (a : Addr) (oe : Obj) (cls : Value) (d : Option Addr) (pn : List (Addr × Obj)), Zc cls d oe → (∃ vs, oe.data = .fields vs) → PSs (X.suite a ((a, oe) :: pn)) (b₀ :: suite) (ts a cls d)) :
    PS X (.Try body [.ExceptHandler (some (.Name x np)) (some n) (b₀ :: suite) pos'] [] [] pos) (fun D σ H => tb (wKeep X.K c i ts Wo D) D σ H) := by
  refine ⟨fun pins s σ H D I0 h0 => ?_⟩
  have okX := I0.ok
  have frX : X.A.frames = some (X.env :: X.outer) := okX.frames.trans (congrArg some hs)
  have locN : Loc X.env.scope n := Or.inl hln
  apply wpAny_Try_except
  refine wpAny_mono ((hb (wKeep X.K c i ts Wo D) (X.pn ++ pins) (fun e s₁ => wpAny (model X.prog X.w) X.A (noteFrame e X.env) (fun _ s₂ =>
      wpAny (model X.prog X.w) X.A (setFlight e none) (fun _ s₃ =>
      wpAny (model X.prog X.w) X.A (handleBy e X.env [.ExceptHandler (some (.Name x np)) (some n) (b₀ :: suite) pos']) (SP X pins D) X.xe s₃) X.xe s₂) X.xe s₁)
      (fun u s' flies => ?caught) PassesOwn.looking).run [] s σ H D (I0.toTry _) h0) (fun f s1 fine => ?through) (fun _ _ z => z)
  case through =>
    cases f with
    | next => obtain ⟨σ1, H1, I1, q⟩ := fine; exact wpAny_execs_nil ⟨σ1, H1, I1.ofTry okX, q⟩
    | brk => obtain ⟨σ1, H1, I1, q⟩ := fine; exact ⟨σ1, H1, I1.ofTry okX, q⟩
    | cont => obtain ⟨σ1, H1, I1, q⟩ := fine; exact ⟨σ1, H1, I1.ofTry okX, q⟩
    | ret u => obtain ⟨v1, σ1, H1, I1, r1, q⟩ := fine; exact ⟨v1, σ1, H1, I1.ofTry okX, r1, q⟩
  case caught =>
    obtain ⟨a, B, sI, pI, σI, HI, cls, d, rfl, IT, inB, slots, air, fresh, osI, bareI, b, mt, yes, no⟩ := flies
    have II : L2.Inv X pins σI HI sI := IT.ofTry okX
    have air2 : Sky B (X.env :: X.outer) a (Zc cls d) X.env.locals s'.heap := hs ▸ air
    show wpAny (model X.prog X.w) X.A (noteFrame (.ref a) X.env) _ _ _
    refine Sky.land Zc.steady frX hf air2 fun h3 fl3 u3 => ?_
    have I3 : L2.Inv X pins σI HI { s' with heap := h3 } := II.landed inB fl3.1 (slots.trans u3) osI bareI
    obtain ⟨o3, v3, g3, z3, d3⟩ := fl3.there
    have noFr : a ∉ frs (X.env :: X.outer) := fun hm => by
      obtain ⟨_, o', e', hnf⟩ := fl3.2.2.1.mem hm
      rw [g3] at e'
      cases e'
      exact hnf _ d3
    have noL : a ≠ X.env.locals := fun z => noFr (List.mem_filterMap.mpr ⟨X.env, List.mem_cons_self, by rw [hf, z]⟩)
    have noF : a ∉ X.fs := fun hm => by
      obtain ⟨e, he, q⟩ := List.mem_filterMap.mp hm
      exact noFr (List.mem_filterMap.mpr ⟨e, List.mem_cons_of_mem _ he, q⟩)
    have noI : sI.heap.get? a = none := by
      cases e : sI.heap.get? a with
      | none => rfl
      | some o =>
        have q := inB a o e (by rw [hs]; exact noFr)
        rw [fl3.2.1] at q
        cases q
    have no0 : ∀ o, X.s_0.heap.get? a = some o → a ∈ X.ex := fun o e => Classical.byContradiction fun hx => by
      obtain ⟨o', q⟩ := II.base.there a o e hx
      rw [noI] at q
      cases q
    have noP : ∀ p ∈ X.pn ++ pins, p.1 ≠ a := fun p hp z => by
      have q := (II.pin p hp).1
      rw [z, noI] at q
      cases q
    have S3 := I3.suite g3 d3 fresh noL noF
    refine wpAny_handleBy_cons (codeAny_handlers_test ?_) (by intro q; cases q)
    have lookT : PySem.W.Looks (model X.prog X.w) h3 (typeOf (.ref a)) cls := fun A Q E s k q => wpAny_typeOf_ref (k _ _ g3) (by rw [z3.1]; exact q)
    have lookM := PySem.W.exm_one (M := model X.prog X.w) I3.kIn lookT mt
    have nameIs : ∀ {Q : Value → Shared → Prop} {E : Value → Shared → Prop}, Q c { s' with heap := h3 } →
        wpAny (model X.prog X.w) (X.A.mark (some (.ref a))) (eval (.Name x np) X.env) Q E { s' with heap := h3 } := fun {Q E} q => by
      rcases hc with ⟨hg, hdbg, hm | ⟨hm, hv, hnn⟩⟩
      · exact ld_glob (X := X.suite a ((a, o3) :: (X.pn ++ pins))) S3 hg hm q hdbg
      · exact ld_blt (X := X.suite a ((a, o3) :: (X.pn ++ pins))) S3 hg hm hv q hnn hdbg
    refine nameIs (lookM.here ?_)
    cases b with
    | true =>
      obtain ⟨C, rfl, yes⟩ := yes rfl
      refine codeAny_handlers_suite_as ?_
      refine HandSPX.lands_againZ fl3 fun h4 fl4 u4 => ?_
      have I4 : L2.Inv X pins σI HI { s' with heap := h4 } := II.landed inB fl4.1 ((slots.trans u3).trans u4) osI bareI
      obtain ⟨o4, v4, g4, z4, d4⟩ := fl4.there
      have S4 := I4.suite g4 d4 fresh noL noF
      refine store_ok (X := X.suite a ((a, o4) :: (X.pn ++ pins))) (v := .ref a) S4 hN hi locN rfl (fun s5 S5 => ?_) (Or.inr hln)
      refine wpAny_mono ((hsu a o4 (.ref C) d (X.pn ++ pins) z4 ⟨_, d4⟩).run [] s5 _ HI _ S5 (yes a fresh)) (fun f s6 done => ?_) (fun _ _ z => False.elim z)
      cases f with
      | next =>
        obtain ⟨σ6, H6, S6, q6⟩ := done
        have pa := S6.pin (a, o4) (List.mem_append_left _ List.mem_cons_self)
        have I6 := track (S6.unsuite okX) pa.1 z4 ⟨_, d4⟩ pa.2.1 no0 noL noP
        exact gone_ok I6 hN hi hln fun s7 I7 => ⟨_, _, I7, q6⟩
      | brk => obtain ⟨_, _, _, z⟩ := done; exact z.elim
      | cont => obtain ⟨_, _, _, z⟩ := done; exact z.elim
      | ret u => obtain ⟨_, _, _, _, _, z⟩ := done; exact z.elim
    | false =>
      show wpAny _ X.A (handleBy (.ref a) X.env []) _ _ _
      refine wpAny_handleBy_nil ?_
      obtain ⟨_, _, _, o1, w1, T1, _, _, g1, _, e1, f1, _⟩ := id fl3
      unfold PySem.passOn
      refine wpAny_bind (wpAny_field g1 e1 f1 ?_)
      rw [if_neg (show ¬ ((Value.ref T1 == Value.none) = true) from by simp)]
      have goes : wpAny (model X.prog X.w) X.A (setFlight (.ref a) X.env.frame) (fun _ s4 => wpAny (model X.prog X.w) X.A (throw (.ref a) : Sem Flow) (SP X pins D) X.xe s4) X.xe { s' with heap := h3 } := by
        rw [hf]
        refine HandSPX.setFlight_upZ fl3 fun h4 hh4 u4 => wpAny_throw (tk _ _ ?_)
        exact ⟨a, B, sI, pins, σI, HI, cls, d, rfl, II, inB, (slots.trans u3).trans u4, .inr (.inr (by rw [hs]; exact hh4)), fresh, osI, bareI, no rfl⟩
      first
        | exact wpAny_bind (wpAny_pure (wpAny_bind goes))
        | exact wpAny_bind goes
end DL

/-! isinstance of a tracked exception, its fields -/
namespace PySem.W
open PySem PySem.Spec PySem.Calls PyProof.Rows
section
variable {prog : Program} {w : World} {A : Around} {E : Value → Shared → Prop} {s : Shared} {K : Frag} {x D : Addr} {ox : Obj} {od : Option Obj}
theorem dl_classX {Q : Option Value → Shared → Prop} (T : L2.ExcC K D) (X : K.In s.heap) (I : InstAt s.heap x ox D od) (h : Q (some (.ref D)) { s with toks := s.toks + 1 }) :
    wpAny (model prog w) A (getAttr? (.ref x) "__class__") Q E s := by
  have isC : (clsIn K D).isSome = true := by
    obtain ⟨cd, q, _⟩ := any_some T.hd
    rw [q]
    rfl
  have found : findObj K D od "__class__" = some (.bind (.builtin "getset_descriptor.__get__") (.builtin "object.__class__")) := by
    cases od with
    | none => exact findObj_dataN isC T.ha T.hn T.ht
    | some o => exact findObj_data isC T.ha T.hn T.ht
  obtain ⟨heap0, gens0, drawn0, toks0, os0⟩ := s
  have ofType := I.type (M := model prog w)
  have ofHook := looks_findIn (M := model prog w) X T.hg
  have ofNoHook := looks_findIn (M := model prog w) X T.hk
  have ofFound := looks_find (M := model prog w) X I found
  have isB : Looks (model prog w) heap0 (isInstance (.ref x) (.type "BaseException")) true := ofType.andThen (looks_subIn X T.hs)
  have b0 : (false && onTheHeap (Value.builtin "BaseException.__getattribute__")) = false := rfl
  have b1 : (onTheHeap (Value.ref D) && Value.builtin "BaseException.__getattribute__" == Value.builtin "object.__getattribute__") = false := by
    have q : (Value.builtin "BaseException.__getattribute__" == Value.builtin "object.__getattribute__") = false := by decide +kernel
    rw [q]
    rfl
  unfold getAttr? getAttrBy? getAttrBy
  apply wpAny_bind
  apply wpAny_mkText
  apply wpAny_bind
  apply wpAny_attempt
  apply wpAny_holding
  apply wpAny_bind
  refine ofType.at (wpAny_bind (ofHook.at ?_))
  show wpAny _ _ (ite _ _ _) _ _ _
  rw [b1, if_neg Bool.false_ne_true]
  unfold getAttrByItsOwn hookBefore
  apply wpAny_bind
  rw [if_pos (show onTheHeap (Value.ref D) = true from rfl)]
  refine ofNoHook.at (wpAny_bind (wpAny_attempt (wpAny_holding ?_)))
  unfold callGetattribute
  rw [b0, if_neg Bool.false_ne_true]
  unfold boundAndCalled
  rw [PySem.F.excAttr_ValueError.ga.bind (.ref x)]
  refine wpAny_bind (wpAny_pure (?_ : wpAny _ _ (call (.builtin "BaseException.__getattribute__") [.ref x, .str "__class__" toks0]) _ _ _))
  refine wpAny_call (codeAny_call_builtin PySem.F.excAttr_ValueError.ga.plain PySem.F.entry_bexc_ga ?_)
  refine @check_slot (model prog w) _ _ ⟨heap0, gens0, drawn0, toks0 + 1, os0⟩ "BaseException.__getattribute__" "BaseException" "__getattribute__" (.ref x) [.str "__class__" toks0] [] _
    (by decide +kernel) (by decide +kernel) isB (PySem.F.args_bexc_ga (.ref x) (.str "__class__" toks0)) ?_
  unfold Builtin.«object.__getattribute__»
  refine wpAny_bind (wpAny_of_eq (a := ((Value.ref x : Value), [Value.str "__class__" toks0])) (by first | rfl | (simp only [slotArgs]; rfl)) ?_)
  refine wpAny_bind (wpAny_pure (wpAny_bind (ofType.at (wpAny_bind (ofFound.at ?_)))))
  show wpAny _ _ (holding [Value.builtin "object.__class__"] (call (.builtin "getset_descriptor.__get__") [.builtin "object.__class__", .ref x, .ref D]) >>= ret) _ _ _
  apply wpAny_bind
  apply wpAny_holding
  refine wpAny_call (class_get (s := ⟨heap0, gens0, drawn0, toks0 + 1, os0⟩) (ox := ox) (od := od) X I T.hm ?_)
  apply wpAny_pure
  show wpAny _ _ (handedOut (.ref D)) _ _ _
  rw [handedOut_of (v := .ref D) rfl]
  first
    | exact wpAny_pure (wpAny_pure h)
    | exact wpAny_pure h
    | exact wpAny_pure (wpAny_bind (wpAny_pure (wpAny_pure h)))
theorem dl_kitX (T : L2.ExcC K D) : KitX K (.ref x) (.ref D) (fun h => ∃ ox od, InstAt h x ox D od) where
  ty := fun _ _ _ ⟨_, _, I⟩ => I.type
  it := fun _ _ X _ => by
    obtain ⟨cdD, q, _⟩ := any_some T.hd
    unfold clsIn at q
    split at q
    · rename_i e
      intro A' Q' E' s' k z
      unfold isType loadHead
      exact wpAny_bind (wpAny_loadPart (k _ _ (X _ _ e)) (wpAny_pure z))
    · cases q
  ne := fun h tp dd its n sl X htp => Bool.eq_false_iff.mpr fun z => by
    have e : D = tp := Value.ref.inj (beq_iff_eq.mp z)
    obtain ⟨cdD, q, _⟩ := any_some T.hd
    unfold clsIn at q
    split at q
    · rename_i g
      rw [← e] at htp
      cases (X _ _ g).symm.trans htp
    · cases q
  ca := fun X ⟨_, _, I⟩ k => dl_classX T X I k
end
end PySem.W
namespace DL
open PySem PySem.Spec PyProof.Rows L2
/-- how a tracked exception stands -/
theorem exV_inst {P : Program} {w : World} {H : Hp} {h : Heap} {a C : Addr} {d : Option Addr} {gs : List (Str × V)} (hok : HOk P w H h) (e : H a = some (exV a C d)) (x : XD H d gs) :
    ∃ ox od, PySem.W.InstAt h a ox C od := by
  obtain ⟨⟨oe, he, hz, vs, hd⟩, _, _⟩ := hok a _ e
  cases d with
  | none => exact ⟨oe, none, by
      obtain ⟨oc, od, oda, osl⟩ := oe
      obtain ⟨h1, h2⟩ := hz
      dsimp only at h1 h2 hd
      subst h1 h2 hd
      exact ⟨he, rfl, rfl, trivial⟩⟩
  | some p =>
    obtain ⟨mA, hns, _⟩ := hok p _ x
    obtain ⟨od, ho, _⟩ := lookIn_ns hns
    exact ⟨oe, some od, he, hz.1, by unfold PySem.W.notCls; rw [hd] <;> rfl, by rw [hz.2]; exact ho⟩
/-- isinstance(e, c), e a tracked exception -/
def rIsX (K : PySem.W.Frag) : List V → Hp → VK → Prop := fun xs H Q => ∃ (a C : Addr) (d : Option Addr) (gs : List (Str × V)) (c : V) (cv : Value) (b : Bool), xs = [.ref a, c] ∧ H a = some (exV a C d) ∧ XD H d gs ∧ ExcC K C ∧ (∀ u, RelV c u → u = cv) ∧
  PySem.W.kitOne K (.ref C) cv = some b ∧ Q (.bl b) H
theorem cr_isX {X : Cx} : CallR X (.builtin "isinstance") (rIsX X.K) := by
  intro pins s σ H xs us Q I r h
  obtain ⟨a, C, d, gs, c, cv, b, rfl, ha, hd, T, hcv, e, q⟩ := h
  cases r with
  | cons rx rr =>
    cases rr with
    | cons rt rr =>
      cases rr
      cases rx
      have ec := hcv _ rt
      subst ec
      exact PySem.W.kia_one (PySem.W.dl_kitX T) I.kIn (exV_inst I.hok ha hd) e (fun z => nomatch z) fun tk => ⟨.bl b, H, I.kept (t' := tk) fun _ _ z => z, rfl, q⟩
/-- e.f, e a tracked exception -/
def tXg (K : PySem.W.Frag) (f : Str) (te : TE) : TE := fun σ H Q => te σ H fun x H1 => ∃ (a C dd : Addr) (fs : List (Str × V)) (v : V), x = .ref a ∧ H1 a = some (exV a C (some dd)) ∧ XfC K C ∧ PySem.W.findIn K (.ref C) f = some none ∧ H1 dd = some (.xd fs) ∧ fs.lookup f = some v ∧ Q v H1
theorem pe_xg {X : Cx} {e : Expr} {te : TE} {pos : Pos} {n : Str} (he : PE X e te) (hb : attributeBase e n X.env (eval e X.env) = eval e X.env := by rfl) : PE X (.Attribute e n pos) (tXg X.K n te) := by
  refine ⟨fun pins s σ H Q I h => ?_⟩
  refine attr_of hb (thn (he.run pins s σ H _ I h) fun u s1 hh => ?_)
  obtain ⟨x, H1, I1, rx, a, C, dd, fs, v, rfl, ea, T, no, ed, l, q⟩ := hh
  obtain rfl : u = Value.ref a := rx
  obtain ⟨⟨oe, ha, hz, vs, hd⟩, _, _⟩ := I1.hok a _ ea
  obtain ⟨mA, hns, hr⟩ := I1.hok dd _ ed
  obtain ⟨od, ho, hl⟩ := lookIn_ns hns
  obtain ⟨u, hu, ru⟩ := RelO.some_of (v := v) (o := mA n) (by rw [← l]; exact hr n)
  have J : PySem.W.InstAt s1.heap a oe C (some od) := ⟨ha, hz.1, by unfold PySem.W.notCls; rw [hd] <;> rfl, by rw [hz.2]; exact ho⟩
  refine HandSPX.exc_get I1.kIn J T.ga T.gg T.exC (PySem.W.findObj_own T.hdC no rfl ?_) (handed_of ru) ⟨v, H1, I1.tok _, ru, q⟩
  rw [hl, hu]
end DL

namespace DL
open PySem PySem.Spec PyProof.Rows L2
theorem kit_sub {K : PySem.W.Frag} {t : Value} {C : Addr} {b : Bool} (h1 : PySem.W.subIn K (.ref C) (.type "BaseException") = some true) (hd : PySem.W.hasDictIn K C = true) (ht : PySem.W.typeIn K (.ref C) = some (.type "type"))
    (h4 : PySem.W.subIn K t (.ref C) = some b) (hn : (t == .ref C) = true → b = true) : PySem.W.kitOne K t (.ref C) = some b := by
  have e := PySem.W.exm_ref h1 hd ht h4
  unfold PySem.W.exmOne at e
  rw [h1, if_pos (by rfl)] at e
  unfold PySem.W.kitOne
  split
  · rename_i q
    rw [hn q]
  · exact e
section
variable {C : Cfg} {ds : DS} {M : Mem} {k : D → Mem → Prop} {te : TE} {K : PySem.W.Frag}
theorem XC.isi_exc {A B : Addr} {fs : List (Str × D)} {b : Bool} (T : ExcC K A) (e : PySem.W.kitOne K (.ref A) (.ref B) = some b) (h : k (.bl b) M) : XC K (rIsX K) [.exc A fs, .raw B] M k := fun F H vs s r Q g => by
  cases r with
  | cons r1 r2 =>
    cases r2 with
    | cons r2 r3 =>
      cases r3
      cases r2
      cases r1 with
      | exc h1 x rf =>
        exact ⟨_, A, _, _, .ref B, .ref B, b, rfl, s.ex _ _ h1, x.mono s.ex, T, fun u z => z, e, g.now s (.bl b) h⟩
theorem XE.xg {f : Str} (h : XE C te ds M fun x M1 => ∃ A fs d, x = .exc A fs ∧ XfC C.K A ∧ PySem.W.findIn C.K (.ref A) f = some none ∧ fs.lookup f = some d ∧ k d M1) : XE C (tXg C.K f te) ds M k := fun F H σ s e c Q g =>
  h F H σ s e c _ fun x M1 v F1 H1 n1 r1 h1 => by
    obtain ⟨A, fs, d, rfl, T, no, l, q⟩ := h1
    cases r1 with
    | @exc a _ dd _ gs h1 x rf =>
      obtain ⟨v, hv, rv⟩ := rf.lookup l
      cases dd with
      | none =>
        have x : gs = [] := x
        subst x
        simp at hv
      | some p => exact ⟨a, A, p, gs, v, rfl, n1.st.ex _ _ h1, T, no, n1.st.ex _ _ x, hv, g _ _ _ _ _ n1 rv q⟩
theorem XE.callS {n : Nat} {sp : DSp} {t : TA} (m : MonoD sp) (h : XA C t ds M fun xs M1 => ∃ Mr Mc, M1 = Mr ++ Mc ∧ xs.length = n ∧ sp xs Mc (fun r M' => k r (Mr ++ M')) (fun cls fs M' => C.x ds cls fs (Mr ++ M'))) :
    XE C (tCallS (spD C.K n sp) C.E t) ds M k := fun F H σ s e c Q g =>
  h F H σ s e c _ fun xs M1 vs F1 H1 n1 r1 h1 => by
    obtain ⟨Mr, Mc, rfl, hl, q⟩ := h1
    exact spD_use (x := C.x ds) n1.st r1 hl q (g.next n1) (fun cls fs M' d F' H' n2 hx ex => c ds σ cls fs M' F' H' d (n1.trans n2) (e.mono (n1.trans n2).ex) hx ex) (m _ _)
theorem XE.callSP {n : Nat} {p : PSp} {t : TA} (m : MonoP p) (h : XA C t ds M fun xs M1 => xs.length = n ∧ p xs (fun r => k r M1) (fun cls fs => C.x ds cls fs M1)) :
    XE C (tCallS (spD C.K n (pur p)) C.E t) ds M k := XE.callS m.pur fun F H σ s e c Q g => h F H σ s e c Q fun xs M1 vs F1 H1 n1 r1 h1 => g xs M1 vs F1 H1 n1 r1
      ⟨M1, [], (List.append_nil _).symm, h1.1, rfl, m _ _ _ _ _ (fun r q => by rw [← List.append_nil M1] at q; exact q) (fun c f q => by rw [← List.append_nil M1] at q; exact q) h1.2⟩
end
/-- a caught exception becomes still -/
theorem Nxt.keepX {K : PySem.W.Frag} {F H : Hp} {M : Mem} {a A : Addr} {d : Option Addr} {fs : List (Str × D)} (s : Stt K F H M) (na : H a = none) (ex : ExD K F H d fs) :
    ∃ F', Nxt K F H M F' (upd H a (exV a A d)) M ∧ Rep K F' (.exc A fs) (.ref a) := by
  have fa : F a = none := by
    cases q : F a with
    | none => rfl
    | some o => rw [s.ex _ _ q] at na; cases na
  -- the still heap with the exception's dict, then with the exception
  obtain ⟨F1, gs, hF, hx, rf, hsub⟩ : ∃ F1 gs, Ex F F1 ∧ XD F1 d gs ∧ RepF K F1 fs gs ∧ ∀ b o, F1 b = some o → F b = some o ∨ (H b = some o ∧ ∃ gs, o = .xd gs) := by
    cases d with
    | none =>
      have e : fs = [] := ex
      subst e
      exact ⟨F, [], Ex.refl _, rfl, .nil, fun b o h => .inl h⟩
    | some p =>
      obtain ⟨gs, hp, rf⟩ := ex
      refine ⟨upd F p (.xd gs), gs, ?e, upd_same, ?r, fun b o h => ?_⟩
      case e =>
        intro b o h
        by_cases z : b = p
        · subst z
          rw [s.ex _ _ h] at hp
          cases hp
          exact upd_same
        · rw [upd_ne z]
          exact h
      case r =>
        refine rf.mono ?_
        intro b o h
        by_cases z : b = p
        · subst z
          rw [s.ex _ _ h] at hp
          cases hp
          exact upd_same
        · rw [upd_ne z]
          exact h
      · by_cases z : b = p
        · subst z
          rw [upd_same] at h
          cases h
          exact .inr ⟨hp, _, rfl⟩
        · rw [upd_ne z] at h
          exact .inl h
  have f1a : F1 a = none := by
    cases q : F1 a with
    | none => rfl
    | some o =>
      rcases hsub a o q with h | ⟨h, _⟩
      · rw [fa] at h; cases h
      · rw [na] at h; cases h
  have e2 : Ex F1 (upd F1 a (exV a A d)) := Ex.new f1a
  have nea : ∀ b o, H b = some o → b ≠ a := fun b o h z => by
    rw [z, na] at h
    cases h
  refine ⟨upd F1 a (exV a A d), ⟨⟨fun b o h => ?_, fun p hp => ?_, s.nd⟩, hF.trans e2, fun b o h _ => ?_, fun b h1 h2 _ h4 => ?_, fun b m => .inl m, fun b h => ?_⟩, .exc upd_same (hx.mono e2) (rf.mono e2)⟩
  · by_cases z : b = a
    · subst z
      rw [upd_same] at h ⊢
      exact h
    · rw [upd_ne z] at h ⊢
      rcases hsub b o h with q | ⟨q, _⟩
      · exact s.ex _ _ q
      · exact q
  · obtain ⟨h1, o, h2, h3⟩ := s.mem p hp
    have z := nea _ _ h2
    refine ⟨?_, o, by rw [upd_ne z]; exact h2, h3.mono (hF.trans e2)⟩
    rw [upd_ne z]
    cases q : F1 p.1 with
    | none => rfl
    | some u =>
      rcases hsub _ u q with h | ⟨h, gs, rfl⟩
      · rw [h1] at h; cases h
      · exact absurd h (MRep.noxd h2 h3 gs)
  · rw [upd_ne (nea b o h)]
    exact h
  · cases e : H b with
    | none => exact absurd e h2
    | some o =>
      have z := nea b o e
      rw [upd_ne z]
      cases q : F1 b with
      | none => rfl
      | some u =>
        rcases hsub b u q with h | ⟨h, gs, rfl⟩
        · rw [h1] at h; cases h
        · exact absurd h (h4 gs)
  · cases e : H b with
    | none => exact absurd e h
    | some o =>
      rw [upd_ne (nea b o e), e]
      simp
end DL
namespace DL
open PySem PySem.Spec PyProof.Rows L2
/-- try: body / except c as i: j = i -/
theorem XS.tryKeep {C : Cfg} {ds : DS} {M : Mem} {P : Post} {i j : Nat} {cv : Value} {tb : WX → TS} (hij : i ≠ j) (x : DS → Value → List (Str × D) → Mem → Prop)
    (hx : ∀ ds' cls fs M', x ds' cls fs M' → i < ds'.length ∧ ∃ b, PySem.W.exmOne C.K cls cv = some b ∧ (b = true → ∃ A, cls = .ref A ∧ P.nx ((ds'.set j (some (.exc A fs))).set i none) M') ∧ (b = false → C.x ds' cls fs M'))
    (h : ∀ W, XS ⟨C.K, WE W, x⟩ (tb W) ds M P) :
    XS C (fun D σ H => tb (wKeep C.K cv i (fun _ _ _ => tAsg (tVar i) (gName j)) (fun cls d σ H => C.E σ cls d H) D) D σ H) ds M P := fun F H σ s e c D f => by
  refine h _ F H σ s e (fun ds' σ' cls fs M' F' H' d n e' hq ex => ?_) D f
  obtain ⟨hi, b, hb, hyes, hno⟩ := hx _ _ _ _ hq
  refine ⟨b, hb, fun z => ?_, fun z => c ds' σ' cls fs M' F' H' d n e' (hno z) ex⟩
  obtain ⟨A, rfl, q⟩ := hyes z
  refine ⟨A, rfl, fun a na => ?_⟩
  obtain ⟨F2, n2, r⟩ := Nxt.keepX (A := A) n.st na ex
  have hl : i < σ'.length := by rw [← e'.1]; exact hi
  have e2 := e'.mono n2.ex
  refine ⟨.ref a, by rw [List.getElem?_set_self hl], f.nx _ M' _ F2 _ (n.trans n2) ⟨?_, fun m v hm => ?_⟩ q⟩
  · simp only [List.length_set]
    exact e2.1
  · by_cases h1 : m = i
    · subst h1
      rw [List.getElem?_set] at hm
      split at hm
      · split at hm
        · cases hm
        · cases hm
      · rename_i z
        exact absurd rfl z
    · rw [List.getElem?_set_ne (Ne.symm h1)] at hm ⊢
      by_cases h2 : m = j
      · subst h2
        rw [List.getElem?_set] at hm
        rw [if_pos rfl] at hm
        split at hm
        · rename_i hm2
          cases hm
          refine ⟨.ref a, ?_, r⟩
          rw [List.getElem?_set_self (by rw [List.length_set, ← e2.1]; exact hm2)]
        · cases hm
      · rw [List.getElem?_set_ne (Ne.symm h2)] at hm ⊢
        rw [List.getElem?_set_ne (Ne.symm h1)]
        exact e2.2 m v hm
end DL

namespace DL
open PySem PySem.Spec PyProof.Rows L2
/-- what an exception's own __init__ with one field does -/
def spI (A : Addr) (f : Str) : Sp := fun vs H Q _ => ∃ a y, vs = [.ref a, y] ∧ H a = some (exo a A none) ∧ ∀ dx, H dx = none → dx ≠ a → Q .non (upd (upd H dx (exd dx [(f, y)])) a (exo a A (some dx)))
theorem init_run {K : PySem.W.Frag} {A : Addr} {f : Str} {N : List Str} {vs : List V} {H : Hp} {Q : VK} {E : XK} (T : OexC K A) (no : PySem.W.findIn K (.ref A) f = some none) (hN : N.length = 2) (h : spI A f vs H Q E) :
    tOst K f (tVar 0) (tVar 1) { nx := fun _ H' => Q .non H', rt := Q } (L2.start N vs) H := by
  obtain ⟨a, y, rfl, ha, hq⟩ := h
  have e : L2.start N [.ref a, y] = [some (.ref a), some y] := by
    unfold L2.start
    rw [hN]
    rfl
  rw [e]
  exact ⟨y, rfl, .ref a, rfl, a, A, rfl, T, no, .inl ⟨ha, fun dx h1 h2 => hq dx h1 h2⟩⟩
section
variable {C : Cfg} {ds : DS} {M : Mem} {P : Post} {ta : TA} {E : XK}
theorem XS.raiseI {A : Addr} {f : Str} (hE : ∀ σ, C.E σ = E) (h : XA C ta ds M fun xs M1 => ∃ y, xs = [y] ∧ C.x ds (.ref A) [(f, y)] M1) :
    XS C (fun _ σ H => tMkO A (spI A f) [] ta σ H fun cls d H' => (fun cls d (_ : L2.St) H => E cls d H) cls d σ H') ds M P := fun F H σ s e c D ft => by
  refine h F H σ s e c _ fun xs M1 vs F1 H1 n1 r1 h1 => ?_
  obtain ⟨y, rfl, hx⟩ := h1
  cases r1 with
  | @cons _ v _ _ ry r2 =>
    cases r2
    refine ⟨by show 1 ≤ 1000; decide, fun a na => ⟨a, v, rfl, upd_same, fun dx hd hda => ⟨rfl, dx, [(f, v)], upd_same, ?_, ?_, ?_⟩⟩⟩
    · rw [upd_ne hda, upd_same]
    · rw [upd_ne hda] at hd
      exact hd
    · rw [upd_ne hda] at hd
      have e3 : upd (del (upd (upd (upd H1 a (exo a A none)) dx (exd dx [(f, v)])) a (exo a A (some dx))) a) dx (.xd [(f, v)]) = upd H1 dx (.xd [(f, v)]) := by
        funext b
        by_cases h1 : b = dx
        · subst h1
          rw [upd_same, upd_same]
        · rw [upd_ne h1, upd_ne h1]
          by_cases h2 : b = a
          · subst h2
            rw [del_same, na]
          · rw [del_ne h2, upd_ne h2, upd_ne h1, upd_ne h2]
      show E (.ref A) (some dx) _
      rw [e3, ← hE σ]
      have n2 := Nxt.newX (o := .xd [(f, v)]) n1.st hd
      exact c ds σ (.ref A) [(f, y)] M1 F1 _ (some dx) (n1.trans n2) (e.mono n1.ex) hx ⟨[(f, v)], upd_same, .cons ry .nil⟩
end
end DL

/-! defs that may use repr of lists: called where nothing is being shown (guards known to be none) -/
namespace DL
open PySem PySem.Spec PyProof.Rows L2
structure FnG (P : Program) (w : World) (K : PySem.W.Frag) (mg : Str → Option Value) (base : Heap) (CX : CXT) (k : Nat) (f : Addr) (fd : FuncData) (ps : List Str) (sp : Sp) : Prop where
  len : ∀ vs H Q E, sp vs H Q E → vs.length = ps.length
  run : ∀ (A : Around) (outer : List Env) (s : Shared) (H : Hp) (args : Args) (us : List Value) (vs : List V) (Q : VK) (E : XK), Room k A → A.guards = some [] →
    Env0 P w K mg base A outer s H → BindsTo s fd args (ps.zip us) → Vals vs us → sp vs H Q E → codeAny (model P w) A (.call (.ref f) args) (CR CX outer P w H s Q E) s
theorem fnG_of {CX : CXT} {P : Program} {w : World} {K : PySem.W.Frag} {mg : Str → Option Value} {base : Heap} {k : Nat} {f : Addr} {x qual : Str} {params : Arguments} {body : List Stmt} {scope : Scope} {dvs : List V} {kws : List (Str × V)} {fd : FuncData}
    {N ps : List Str} {sp : Sp} (F : FunD K x qual params body scope dvs kws f fd) (S : FnScope N ps scope) (len : ∀ vs H Q E, sp vs H Q E → vs.length = ps.length)
    (hbody : ∀ (cdv : Value) (A : Around) (outer : List Env) (s : Shared) (H : Hp) (vs : List V) (Q : VK) (E : XK), Room k (A.deeper (envOfC qual scope s.heap.objs.size f cdv)) → A.guards = some [] → sp vs H Q E →
      ∃ t, PSs (cxOf CX P w K mg base N qual scope f cdv A outer s H E) body t ∧ t { nx := fun _ H' => Q .non H', rt := Q } (L2.start N vs) H) :
    FnG P w K mg base CX (k + 1) f fd ps sp := by
  obtain ⟨oc, od, dV, kV, doc, pm, an, cdv, ct, osl, rfl, at_, code, _, _⟩ := F.ex
  refine ⟨len, fun A outer s H args us vs Q E room noG env0 binds rel prom => ?_⟩
  have hlen := len _ _ _ _ prom
  have inH : K.In s.heap := env0.mod.kin.keeps fun b o e => (env0.bs b o e).1
  have noLim : s.heap.NoLimit := env0.mod.nolimit.keeps fun b o e => (env0.bs b o e).1
  have kinds : ∀ y ∈ ps.zip us, scope.names.lookup y.1 = some .local ∨ (scope.names.lookup y.1 = some .cell ∧ ((cellsFrom (s.heap.objs.size + 1) scope.names []).lookup y.1).isSome = true) := by
    rintro ⟨n, v⟩ hy
    refine (S.par n (List.of_mem_zip hy).1).imp id fun q => ⟨q, ?_⟩
    exact PySem.W.cellsFrom_some _ _ _ (.inl q)
  refine codeAny_call_function room.depth (inH _ _ at_) rfl S.co S.gen rfl (PySem.W.codeRec_of inH code) (binds _ _ _ _ ?_)
  refine wpAny_newFunctionEnv_cells S.kind kinds fun env hEnv s1 inC => ?_
  subst hEnv
  refine ⟨noLim.keeps inC.toInCall.keep, codeAny_func ?_⟩
  obtain ⟨t, ht, hq⟩ := hbody cdv A outer s H vs Q E (room.deeper _) noG prom
  refine wpAny_mono (ht.run [] s1 (L2.start N vs) H _ (inv_start S room.hd env0 hlen rel inC) hq) (fun fl s' hs => ?_) fun e s' hs => hs
  cases fl with
  | ret u => exact let ⟨v, σ', H', J, rv, q⟩ := hs; ⟨v, H', J.os, J.bare, J.base, J.hok, rv, q⟩
  | next => exact let ⟨σ', H', J, q⟩ := hs; ⟨V.non, H', J.os, J.bare, J.base, J.hok, rfl, q⟩
  | brk => exact let ⟨_, _, _, q⟩ := hs; q.elim
  | cont => exact let ⟨_, _, _, q⟩ := hs; q.elim
/-- the law's call from its promise -/
theorem law_callG {P : Program} {w : World} {K : PySem.W.Frag} {mg mb : Str → Option Value} {CX : CXT} {k : Nat} {fa a : Addr} {fd : FuncData} {x : Str} {sp : Sp} {s₁ : Shared} {vs : List Value} {ns : List Int}
    (inH : K.In s₁.heap) (hns : s₁.heap.Ns mainGlobals mg) (hb : s₁.heap.Ns builtinsNs mb) (hbb : ∀ x : Str, x ≠ "__name__" → mb x = bootBuiltins x) (hlim : s₁.heap.NoLimit) (hg : s₁.gens = #[])
    (ha : s₁.heap.get? a = some { cls := .type "list", data := .seq vs.toArray }) (hi : IntsAre vs ns) (hl : ns.length ≤ sizeLine) (hr : Room k callerA)
    (F : ∀ base : Heap, K.In base → base.Ns mainGlobals mg → FnG P w K mg base CX k fa fd [x] sp) (hbind : ∀ (s : Shared) (u : Value), BindsTo s fd ⟨[u], []⟩ [(x, u)])
    (hsp : ∀ H : Hp, Only H → SqL K H a (ns.map V.int) → sp [.ref a] H (fun v _ => v = .bl true) fun _ _ _ => False) (hCX : ∀ H e s', CX [] H s₁ (fun _ _ _ => False) e s' → False) :
    codeAny (model P w) callerA (.call (.ref fa) ⟨[.ref a], []⟩) (fun r s' => r = .ok (.ret (.bool true)) ∧ OldK s₁.heap s'.heap ∧ s'.os = s₁.os ∧ AllBare s'.gens) s₁ := by
  have rel := vals_ints hi
  obtain ⟨H, only, sq, hok, onlyA, notA⟩ : ∃ H : Hp, Only H ∧ SqL K H a (ns.map V.int) ∧ HOk P w H s₁.heap ∧ (∀ b, H b ≠ none → b = a) ∧ (H a ≠ none → K.lookup a = none) := by
    cases hk : K.lookup a with
    | some o =>
      have e := inH a o hk
      rw [ha] at e
      cases e
      refine ⟨fun _ => none, fun _ => .inl rfl, .inr ⟨_, vs.toArray, _, hk, rfl, rfl, rfl, ?_, by simpa using rel⟩, fun b u z => (nomatch (show (none : Option HO) = some u from z)), fun b z => absurd rfl z, fun z => absurd rfl z⟩
      rw [List.size_toArray, hi.length]
      exact hl
    | none =>
      obtain ⟨u, hu⟩ : ∃ u : HO, u = .frz { cls := .type "list", data := .seq vs.toArray } (.lst (ns.map V.int)) := ⟨_, rfl⟩
      refine ⟨upd (fun _ => none) a u, fun b => ?_, .inl (.inr ⟨{ cls := .type "list", data := .seq vs.toArray }, hu ▸ upd_same⟩), fun b o z => ?_, fun b z => ?_, fun _ => rfl⟩
      · by_cases q : b = a
        · exact .inr ⟨_, _, by rw [q, upd_same, hu]⟩
        · exact .inl (upd_ne q)
      · by_cases q : b = a
        · rw [q, upd_same, hu] at z
          cases z
          rw [q]
          exact ⟨ha, by rw [List.length_map]; exact hl, vs, _, rel, ha⟩
        · rw [upd_ne q] at z
          cases z
      · exact Classical.byContradiction fun q => z (upd_ne q)
  have out : ∀ {b : Addr} {o : Obj}, s₁.heap.get? b = some o → b ≠ a → (hidT s₁.heap H).get? b = some o := fun {b o} e n => hidT_get e (by
    cases q : H b with
    | none => rfl
    | some u => exact absurd (onlyA b (by rw [q]; simp)) n)
  have outNs : ∀ {b : Addr} {m : Str → Option Value}, s₁.heap.Ns b m → (hidT s₁.heap H).Ns b m := fun {b m} ⟨o, es, ep, e, d, r⟩ => ⟨o, es, ep, out e (fun q => by
    rw [q, ha] at e
    cases e
    cases (show Data.seq vs.toArray _ = Data.dict es ep from d)), d, r⟩
  have inB : K.In (hidT s₁.heap H) := fun b o e => by
    cases q : H b with
    | none => exact hidT_get (inH b o e) q
    | some u =>
      have z := onlyA b (by rw [q]; simp)
      subst z
      rw [notA (by rw [q]; simp)] at e
      cases e
  obtain ⟨mc, l1, l2⟩ := hlim
  have env0 : Env0 P w K mg (hidT s₁.heap H) callerA [] s₁ H :=
    { frames := rfl, mod := ⟨inB, outNs hns, ⟨mb, outNs hb, hbb⟩, ⟨mc, outNs l1, l2⟩⟩, bs := fun b o e => of_hidT e, bsz := Nat.le_of_eq (hidT_size _ _), funs := trivial
      frf := fun b hb => (nomatch (show b ∈ ([] : List Addr) from hb)), hok := hok, bare := .of_eq hg }
  refine codeAny_mono ((F _ inB (outNs hns)).run callerA [] s₁ H ⟨[.ref a], []⟩ [.ref a] [.ref a] _ _ hr rfl env0 (hbind s₁ (.ref a)) (.cons rfl .nil) (hsp H only sq)) fun r s' h => ?_
  cases r with
  | error e => exact (hCX H e s' h).elim
  | ok fl =>
    cases fl with
    | next => exact False.elim h
    | brk => exact False.elim h
    | cont => exact False.elim h
    | ret u =>
      obtain ⟨v, H', os, bare, un, hok', r', q⟩ := h
      cases (show v = .bl true from q)
      obtain rfl : u = Value.bool true := r'
      refine ⟨rfl, OldK.of_keep fun b o e => ?_, os, bare⟩
      cases q : H b with
      | none => exact un.keep b o e q (fun z => (nomatch (show b ∈ ([] : List Addr) from z))) (by simp)
      | some u =>
        rcases only b with z | ⟨ob, xs, z⟩
        · rw [q] at z; cases z
        · have g1 := (hok b _ z).1
          have g2 := (hok' b _ (un.frzs b ob _ z)).1
          rw [e] at g1
          cases g1
          exact g2
theorem walk_ofG {l : PySem.W.OpenLaw} {n k : Nat} {q : Program} {loose : List Str} {XP : (Str → Option Value) → Heap → Prop} {YP : World → Heap → Prop} {d : DefRec} {K : Params → PySem.W.Frag} {CX : World → CXT} {sp : World → Sp} {x : Str}
    (hn : l.most = some n) (hn2 : n ≤ sizeLine) (hdf : d.params.defaults = []) (hr : Room k callerA) (hY : ∀ (w : World) (h : Heap), YP w h → (K w.params).In h)
    (F : ∀ (w : World) (mg : Str → Option Value) (fa : Addr) (h : Heap), (K w.params).In h → h.Ns mainGlobals mg → mg d.name = some (.ref fa) →
      ∃ fd : FuncData, (∀ (s : Shared) (u : Value), BindsTo s fd ⟨[u], []⟩ [(x, u)]) ∧ ∀ base : Heap, (K w.params).In base → base.Ns mainGlobals mg → FnG l.prog w (K w.params) mg base (CX w) k fa fd [x] (sp w))
    (hsp : ∀ (w : World) (H : Hp) (a : Addr) (ns : List Int), ns.length ≤ n → Only H → SqL (K w.params) H a (ns.map V.int) → sp w [.ref a] H (fun v _ => v = .bl true) fun _ _ _ => False)
    (hCX : ∀ (w : World) (H : Hp) (s : Shared) (e : Value) (s' : Shared), CX w [] H s (fun _ _ _ => False) e s' → False) :
    PySem.W.WalkO q loose XP YP l.row.toRowW d [] (fun f vs => PySem.call f vs) := by
  refine Att.attach_call hn hdf fun w s₀ s₁ mg mb fa o pm cd doc a vs ns G Y _ _ _ hmg hobj hints hlen hg => ?_
  obtain ⟨fd, hb, hF⟩ := F w mg fa _ (hY w _ Y) G.T.g hmg
  exact law_callG (hY w _ Y) G.T.g G.T.b G.T.builtins G.T.nolimit hg hobj hints (Nat.le_trans hlen hn2) hr hF hb (fun H hO hS => hsp w H a ns hlen hO hS) fun H e s' => hCX w H s₁ e s'
end DL

namespace DL
open PySem PySem.Spec PyProof.Rows L2 PySem.P
/-- repr(x), x plain data, where nothing is being shown -/
def rRepr (K : PySem.W.Frag) : List V → Hp → VK → Prop := fun xs H Q => ∃ v d, xs = [v] ∧ Dp K H v d ∧ d.showable = true ∧ d.hasDict = false ∧ d.depth ≤ 60 ∧ d.shown.length ≤ sizeLine ∧ Q (.str d.shown) H
theorem cr_repr {X : Cx} (hg : X.A.guards = some []) (hu : X.A.units + 65 < cLine) : CallR X (.builtin "repr") (rRepr X.K) := by
  intro pins s σ H xs us Q I r h
  obtain ⟨v, d, rfl, dp, sh, nd, dd, ln, q⟩ := h
  cases r with
  | cons rx rr =>
    cases rr
    rename_i u
    obtain ⟨as, rd⟩ := Dp.reads I d v u dp rx
    by_cases hr : ∃ a, u = .ref a
    · obtain ⟨a, rfl⟩ := hr
      exact repr_of_reads' rd sh (fun z => by rw [nd] at z; cases z) hg (by omega) (fun _ _ e => e) (fun h' tk t2 k => ⟨.str d.shown, H, I.kept (t' := t2) k, ⟨_, rfl⟩, q⟩) ln
    · cases rd with
      | none => exact repr_of_none ⟨.str _, H, I.tok _, ⟨_, rfl⟩, q⟩
      | bool b => exact repr_of_bool ⟨.str _, H, I.tok _, ⟨_, rfl⟩, q⟩
      | int i t => exact repr_of_int (of_decide_eq_true sh) ⟨.str _, H, I.tok _, ⟨_, rfl⟩, q⟩
      | str x t => exact repr_of_str ⟨.str _, H, I.tok _, ⟨_, rfl⟩, q⟩ ln
      | list => exact absurd ⟨_, rfl⟩ hr
      | tuple => exact absurd ⟨_, rfl⟩ hr
      | dict => exact absurd ⟨_, rfl⟩ hr
theorem XC.repr {K : PySem.W.Frag} {M : Mem} {k : D → Mem → Prop} {x d : D} {n : Nat} (hx : SeAt M x d) (ok : okD n d = true) (hn : n ≤ 60) (sh : d.py.showable = true) (nd : d.py.hasDict = false) (ln : d.py.shown.length ≤ sizeLine) (q : k (.str d.py.shown) M) :
    XC K (rRepr K) [x] M k := fun F H vs s r Q g => by
  cases r with
  | cons r1 r2 =>
    cases r2
    exact ⟨_, d.py, rfl, hx.dp s r1 ok, sh, nd, Nat.le_trans (okD_lay n d ok).2 hn, ln, g.now s (.str _) q⟩
end DL

namespace DL
open PySem PySem.Spec PyProof.Rows L2
/-! z * n for a text; list(z) -/
def rMulS : R2 := fun x y H Q => ∃ (a : Str) (n : Int), x = .str a ∧ y = .int n ∧ MulOk a n ∧ Q (.str (Txt.mul a n)) H
theorem op_mulS {X : Cx} : OpR X (binaryOp .Mult) rMulS := by
  intro pins s σ H x y v u Q I rx ry hq
  obtain ⟨a, n, rfl, rfl, ok, q⟩ := hq
  obtain ⟨t, rfl⟩ := rx
  obtain ⟨t', rfl⟩ := ry
  exact SB.mul ok fun t2 k => ⟨.str _, H, I.kept (t' := k) fun _ _ z => z, ⟨_, rfl⟩, q⟩
theorem XR.mulS {K : PySem.W.Frag} {M : Mem} {k : D → Mem → Prop} {a : Str} {n : Int} (ok : MulOk a n) (q : k (.str (Txt.mul a n)) M) : XR K rMulS (.str a) (.int n) M k := fun F H v u s r1 r2 Q g => by
  cases r1
  cases r2
  exact ⟨a, n, rfl, rfl, ok, g.now s (.str _) q⟩
def rLstS : List V → Hp → VK → Prop := fun xs H Q => ∃ a : Str, xs = [.str a] ∧ a.length ≤ sizeLine ∧ ∀ l, H l = none → Q (.ref l) (upd H l (.lst (a.cps.toList.map fun c => V.str ⟨#[c]⟩)))
theorem paired_get {α β : Type} {R : α → β → Prop} : ∀ {xs : List α} {ys : List β}, xs.length = ys.length → (∀ (j : Nat) x y, xs[j]? = some x → ys[j]? = some y → R x y) → Paired R xs ys
  | [], [], _, _ => .nil
  | [], _ :: _, h, _ => by simp at h
  | _ :: _, [], h, _ => by simp at h
  | x :: xs, y :: ys, h, f => .cons (f 0 x y rfl rfl) (paired_get (by simpa using h) fun j a b h1 h2 => f (j + 1) a b (by simpa using h1) (by simpa using h2))
theorem vals_signs {x : Str} {acc : Array Value} (h : ItemsOf (SignAt x) acc x.cps.size) : Vals (x.cps.toList.map fun c => V.str ⟨#[c]⟩) acc.toList := by
  refine paired_get (by simp [h.1]) fun j a b h1 h2 => ?_
  rw [List.getElem?_map, Option.map_eq_some_iff] at h1
  obtain ⟨c, hc, rfl⟩ := h1
  obtain ⟨c', u, hc', rfl⟩ := h.2 j b (by simpa using h2)
  have e : c = c' := by
    have : x.cps[j]? = some c := by simpa using hc
    rw [hc'] at this
    cases this
    rfl
  rw [e]
  exact ⟨u, rfl⟩
theorem cr_lstS {X : Cx} (hc : X.calm = true) : CallR X (.type "list") rLstS := by
  intro pins s σ H xs us Q I r h
  obtain ⟨a, rfl, hl, q⟩ := h
  cases r with
  | cons rx rr =>
    cases rr
    obtain ⟨t, rfl⟩ := rx
    refine call_list_str (I.ok.hd hc) a t (fun h' tk acc' c' hk hS' hacc => ?_) hl
    refine ⟨.ref s.heap.objs.size, _, I.laid (t' := tk) hk (Nat.le_refl _) (show ObjOk X.prog X.w _ h' _ (.lst (a.cps.toList.map fun c => V.str ⟨#[c]⟩)) from ⟨by rw [List.length_map]; exact hl, acc'.toList, c', vals_signs hacc, by simpa using hS'⟩), rfl, q _ (I.hok.fresh (Nat.le_refl _))⟩
theorem reps_signs {K : PySem.W.Frag} {F : Hp} : ∀ l : List Nat, Reps K F (l.map fun c => D.str ⟨#[c]⟩) (l.map fun c => V.str ⟨#[c]⟩)
  | [] => .nil
  | c :: r => .cons (.str _) (reps_signs r)
theorem XC.lstS {K : PySem.W.Frag} {M : Mem} {k : D → Mem → Prop} {a : Str} (hl : a.length ≤ 16000000) (q : k (.lst (a.cps.toList.map fun c => D.str ⟨#[c]⟩)) M) : XC K rLstS [.str a] M k := fun F H vs s r Q g => by
  cases r with
  | cons r1 r2 =>
    cases r2
    cases r1
    refine ⟨a, rfl, sz hl, fun l hn => ?_⟩
    have n2 := Nxt.newF s (o := .lst (a.cps.toList.map fun c => V.str ⟨#[c]⟩)) hn
    exact g _ _ _ _ _ n2 (.lst upd_same (reps_signs _)) q
/-- x[::-1] of a list -/
theorem pe_revK {K : PySem.W.Frag} {X : Cx} (h : X.K = K) {e : Expr} {te : TE} {k p1 p2 p3 pos} (he : PE X e te) : PE X (.Subscript e (.Slice none none (some (.UnaryOp .USub (.Constant (.int 1) k p1) p2)) p3) pos) (tRevL K te) := by
  subst h
  exact pe_revL he
theorem XE.rev {C : Cfg} {ds : DS} {M : Mem} {k : D → Mem → Prop} {te : TE} (h : XE C te ds M fun x M1 => ∃ xs, LsAt M1 x xs ∧ k (.lst xs.reverse) M1) : XE C (tRevL C.K te) ds M k := fun F H σ s e c Q g =>
  h F H σ s e c _ fun x M1 v F1 H1 n1 r1 h1 => by
    obtain ⟨xs, hx, q⟩ := h1
    obtain ⟨a, vs, rfl, h1, q1⟩ := hx.get n1.st r1
    refine ⟨a, vs, rfl, SqL.of h1, fun p hp => ?_⟩
    have n2 := Nxt.newF n1.st (o := .lst vs.reverse) hp
    exact g _ _ _ _ _ (n1.trans n2) (.lst upd_same ((q1.mono n2.ex).reverse)) q
theorem XM.startswith {K : PySem.W.Frag} {M : Mem} {k : D → Mem → Prop} {a b : Str} (q : k (.bl (Txt.startswith a b)) M) : XM K (fun x xs H Q => ∃ a b, x = .str a ∧ xs = [.str b] ∧ Q (.bl (Txt.startswith a b)) H) (.str a) [.str b] M k := fun F H v vs s r1 r2 Q g => by
  cases r1
  cases r2 with
  | cons r2 r3 =>
    cases r3
    cases r2
    exact ⟨a, b, rfl, rfl, g.now s (.bl _) q⟩
theorem XM.sindex {K : PySem.W.Frag} {M : Mem} {k : D → Mem → Prop} {a b : Str} {i : Nat} {rest : List Nat} (ho : Builtin.Str.occurrences a b 0 a.length 1 = i :: rest) (q : k (.int i) M) :
    XM K (fun x xs H Q => ∃ a b i rest, x = .str a ∧ xs = [.str b] ∧ Builtin.Str.occurrences a b 0 a.length 1 = i :: rest ∧ Q (.int (i : Nat)) H) (.str a) [.str b] M k := fun F H v vs s r1 r2 Q g => by
  cases r1
  cases r2 with
  | cons r2 r3 =>
    cases r3
    cases r2
    exact ⟨a, b, i, rest, rfl, rfl, ho, g.now s (.int _) q⟩
end DL
namespace DL
open PySem PySem.Spec PyProof.Rows L2
/-- {} that nobody changes -/
theorem XE.dnew0 {C : Cfg} {ds : DS} {M : Mem} {k : D → Mem → Prop} (h : k (.dct []) M) : XE C tDNewK ds M k := fun F H σ s e c Q g => by
  intro p hp
  have n2 := Nxt.newF s (o := .dK []) hp
  exact g _ _ _ _ _ n2 (.dct upd_same .nil) h
theorem XE.dnewM {C : Cfg} {ds : DS} {M : Mem} {k : D → Mem → Prop} (h : ∀ p, p ∉ dom M → k (.raw p) ((p, .dct []) :: M)) : XE C tDNewK ds M k := fun F H σ s e c Q g => by
  intro p hp
  have n2 := Nxt.newM s (o := .dK []) (m := .dct []) hp ⟨[], rfl, .nil⟩
  exact g _ _ _ _ _ n2 (.raw p) (h p (s.out hp))
theorem pxF {P : Program} {w : World} {K : PySem.W.Frag} {mg : Str → Option Value} {base : Heap} {N : List Str} {qual : Str} {sc : Scope} {f : Addr} {cdv : Value} {A : Around} {outer : List Env} {s : Shared} {H : Hp} {E : XK} :
    Passes (L2.CX P w) (cxOf (L2.CX P w) P w K mg base N qual sc f cdv A outer s H E) (fun _ _ _ => False) := passes_call (takes_of rfl rfl rfl rfl) fun _ _ _ _ h => h.elim
end DL
namespace DL
open PySem SX
theorem startsNeg (l : List Nat) : Txt.startswith (S l) (S [45]) = isNeg l := by
  unfold Txt.startswith isNeg Builtin.Str.subAt
  cases l with
  | nil => rfl
  | cons c r =>
    simp [Str.length]
    rw [Bool.eq_iff_iff]
    simp
theorem den_gcd {n d : Int} (h : 1 ≤ d) : (((Rat.divInt n d).den : Int) = d) ↔ Int.gcd n d = 1 := by
  rw [Rat.den_divInt, if_neg (by omega), Int.gcd_comm]
  have hg : 0 < Int.gcd n d := Int.gcd_pos_of_ne_zero_right _ (by omega)
  have hd : Int.gcd n d ∣ d.natAbs := by
    have := Int.gcd_dvd_right (a := n) (b := d)
    have q := Int.natAbs_dvd_natAbs.mpr this
    rwa [Int.natAbs_natCast] at q
  constructor
  · intro h2
    have e : d.natAbs / Int.gcd n d = d.natAbs := by omega
    obtain ⟨k, hk⟩ := hd
    rw [hk, Nat.mul_div_cancel_left _ hg] at e
    have hk0 : 0 < k := by
      cases k with
      | zero => omega
      | succ k => omega
    exact Nat.eq_of_mul_eq_mul_right hk0 (by rw [Nat.one_mul]; exact e.symm)
  · intro h2
    rw [h2, Nat.div_one]
    omega
theorem atI_last1 {α : Type} {xs : List α} {x : α} (h : xs.getLast? = some x) : L2.atI xs (-1) = some x := by
  obtain ⟨ys, rfl⟩ := List.getLast?_eq_some_iff.mp h
  exact L2.atI_last ys x
end DL
namespace DL
open PySem L2
theorem XC.reprI {K : PySem.W.Frag} {M : Mem} {k : D → Mem → Prop} {i : Int} (hi : i.natAbs.log2 < 1920) (q : k (.str (toString i)) M) :
    XC K (fun xs H Q => ∃ i, xs = [V.int i] ∧ i.natAbs.log2 < 1920 ∧ Q (V.str (Str.ofString (toString i))) H) [.int i] M k := fun F H vs s r Q g => by
  cases r with
  | cons r1 r2 =>
    cases r2
    cases r1
    exact ⟨i, rfl, hi, g.now s (.str _) q⟩
end DL

namespace DL
open PySem PySem.Spec PyProof.Rows L2 SX
theorem cutS_from (l : List Nat) (n : Nat) : cutS (S l) (some (n : Int)) none = S (l.drop n) := by
  have e := cutD_from l n
  unfold cutD at e
  unfold cutS
  rw [SX.S_len]
  exact congrArg S e
theorem cutS_to (l : List Nat) (n : Nat) : cutS (S l) none (some (n : Int)) = S (l.take n) := by
  have e := cutD_to l n
  unfold cutD at e
  unfold cutS
  rw [SX.S_len]
  exact congrArg S e
theorem Uni.app {a b : List Nat} (h : Uni a) (h2 : Uni b) : Uni (a ++ b) := fun c hc => (List.mem_append.mp hc).elim (h c) (h2 c)
theorem Uni.take {a : List Nat} (h : Uni a) (n : Nat) : Uni (a.take n) := fun c hc => h c (List.mem_of_mem_take hc)
theorem Uni.drop {a : List Nat} (h : Uni a) (n : Nat) : Uni (a.drop n) := fun c hc => h c (List.mem_of_mem_drop hc)
end DL
namespace DL
open PySem L2
theorem enumD_get {xs : List D} {i : Nat} {x : D} (h : (enumD xs)[i]? = some x) : ∃ d, xs[i]? = some d ∧ x = .tup [.int (i : Nat), d] := by
  unfold enumD at h
  rw [List.getElem?_mapIdx] at h
  obtain ⟨d, h1, h2⟩ := Option.map_eq_some_iff.mp h
  exact ⟨d, h1, h2.symm⟩
theorem enumD_len (xs : List D) : (enumD xs).length = xs.length := by unfold enumD; rw [List.length_mapIdx]
theorem tabL_uni' {ks : List Kn} : Uni (tabL ks) := tabL_uni
end DL

namespace DL
open PySem PySem.Spec PyProof.Rows L2 SX
/-! repr of data: that it can be shown, and how long it is -/
structure Shn (n : Nat) (d : D) : Prop where
  sh : d.py.showable = true
  nd : d.py.hasDict = false
  ln : d.py.shown.length ≤ n
theorem Shn.mono {n m : Nat} {d : D} (h : Shn n d) (hm : n ≤ m) : Shn m d := ⟨h.sh, h.nd, Nat.le_trans h.ln hm⟩
theorem cat_len (a b : Str) : (a ++ b).length = a.length + b.length := strLen_append a b
theorem textFrom_le : ∀ (ts : List Str) (k : Nat) (acc : Str), (textFrom k acc ts).length ≤ acc.length + (ts.map fun t => t.length + 2).sum
  | [], k, acc => by simp [textFrom]
  | t :: r, k, acc => by
    have h := textFrom_le r (k + 1) (acc ++ (if k > 0 then ", " else "" : String) ++ t)
    have e : ((if k > 0 then ", " else "" : String) : Str).length ≤ 2 := by split <;> decide
    show (textFrom (k + 1) _ r).length ≤ _
    rw [cat_len, cat_len] at h
    rw [List.map_cons, List.sum_cons]
    omega
theorem listText_le (ts : List Str) : (listText ts).length ≤ (ts.map fun t => t.length + 2).sum + 2 := by
  unfold listText
  have h := textFrom_le ts 0 "["
  rw [cat_len]
  have e1 : (("[" : String) : Str).length = 1 := rfl
  have e2 : (("]" : String) : Str).length = 1 := rfl
  rw [e1] at h
  rw [e2]
  omega
theorem tupleText_le (ts : List Str) : (tupleText ts).length ≤ (ts.map fun t => t.length + 2).sum + 3 := by
  have e1 : (("(" : String) : Str).length = 1 := rfl
  have e2 : ((if ts.length == 1 then ",)" else ")" : String) : Str).length ≤ 2 := by split <;> decide
  unfold tupleText
  rw [cat_len, cat_len]
  by_cases h : ts = []
  · subst h
    decide
  · have h2 := join_length_add ts h
    unfold piled at h2
    rw [e1]
    omega
theorem shownAll_sum {n : Nat} : ∀ xs : List D, (∀ x ∈ xs, Shn n x) → ((PyData.shownAll (pyAll xs)).map fun t => t.length + 2).sum ≤ xs.length * (n + 2)
  | [], _ => by simp [pyAll, PyData.shownAll]
  | x :: xs, h => by
    have h1 := shownAll_sum xs fun y hy => h y (List.mem_cons_of_mem _ hy)
    have h2 := (h x List.mem_cons_self).ln
    simp only [pyAll, PyData.shownAll, List.map_cons, List.sum_cons, List.length_cons, Nat.succ_mul]
    omega
theorem shows_all {n : Nat} : ∀ xs : List D, (∀ x ∈ xs, Shn n x) → PyData.showableAll (pyAll xs) = true ∧ PyData.hasDictAll (pyAll xs) = false
  | [], _ => ⟨rfl, rfl⟩
  | x :: xs, h => by
    have h1 := shows_all xs fun y hy => h y (List.mem_cons_of_mem _ hy)
    have h2 := h x List.mem_cons_self
    simp only [pyAll, PyData.showableAll, PyData.hasDictAll, h1, h2.sh, h2.nd, Bool.and_self, Bool.or_self, and_self]
theorem Shn.tup {n : Nat} {xs : List D} (h : ∀ x ∈ xs, Shn n x) : Shn (xs.length * (n + 2) + 3) (.tup xs) := by
  have h1 := shows_all xs h
  refine ⟨by simpa [D.py, PyData.showable] using h1.1, by simpa [D.py, PyData.hasDict] using h1.2, ?_⟩
  have h2 := shownAll_sum xs h
  have h3 := tupleText_le (PyData.shownAll (pyAll xs))
  simp only [D.py, PyData.shown]
  omega
theorem Shn.lst {n : Nat} {xs : List D} (h : ∀ x ∈ xs, Shn n x) : Shn (xs.length * (n + 2) + 2) (.lst xs) := by
  have h1 := shows_all xs h
  refine ⟨by simpa [D.py, PyData.showable] using h1.1, by simpa [D.py, PyData.hasDict] using h1.2, ?_⟩
  have h2 := shownAll_sum xs h
  have h3 := listText_le (PyData.shownAll (pyAll xs))
  simp only [D.py, PyData.shown]
  omega
theorem intL_le {i : Int} {k : Nat} (hk : 0 < k) (h : i.natAbs < 10 ^ k) : (intL i).length ≤ k + 1 := by
  have := TL.numL_len (k := k) hk h
  unfold intL
  split
  · rw [List.length_cons]; omega
  · omega
theorem Shn.int {i : Int} {k : Nat} (hk : 0 < k) (h : i.natAbs < 10 ^ k) (hl : k ≤ 480) : Shn (k + 1) (.int i) := by
  refine ⟨?_, rfl, ?_⟩
  · show decide (i.natAbs.log2 < 1920) = true
    refine decide_eq_true (PySem.Flt.log2_lt_of (by decide) (Nat.lt_of_lt_of_le h ?_))
    have h1 : (10 : Nat) ^ k ≤ 16 ^ k := Nat.pow_le_pow_left (by decide) k
    have h2 : (16 : Nat) ^ k = 2 ^ (4 * k) := by rw [Nat.pow_mul]
    have h3 : (2 : Nat) ^ (4 * k) ≤ 2 ^ 1920 := Nat.pow_le_pow_right (by decide) (by omega)
    omega
  · show (Str.ofString (toString i)).length ≤ _
    rw [toString_S, SX.S_len]
    exact intL_le hk h
theorem Shn.non : Shn 4 .non := ⟨rfl, rfl, by decide⟩
theorem Shn.dQ {q : Rat} (h : Short q) : Shn 129 (dQ q) := by
  have h2 := Shn.tup (n := 61) (xs := [.int q.num, .int (q.den : Int)]) fun x hx => by
    simp only [List.mem_cons, List.not_mem_nil, or_false] at hx
    rcases hx with rfl | rfl
    · exact Shn.int (by decide) h.1 (by decide)
    · exact Shn.int (by decide) (by rw [Int.natAbs_natCast]; exact h.2) (by decide)
  exact h2
theorem Shn.dKn {q : Kn} (h1 : Short q.1) (h2 : Short q.2) : Shn 265 (dKn q) := by
  have h3 := Shn.tup (n := 129) (xs := [DL.dQ q.1, DL.dQ q.2]) fun x hx => by
    simp only [List.mem_cons, List.not_mem_nil, or_false] at hx
    rcases hx with rfl | rfl
    · exact Shn.dQ h1
    · exact Shn.dQ h2
  exact h3
/-! what is read is short -/
theorem fracN_short {neg : Bool} {ns : List (Option Nat)} {q : Rat} (h : fracN neg ns = some q) (hn : ∀ n, some n ∈ ns → n < 10 ^ 60) : Short q := by
  have key : ∀ (n : Nat) (d : Nat), n < 10 ^ 60 → d < 10 ^ 60 → 0 < d → Short (Rat.divInt (if neg then -(n : Int) else n) d) := fun n d h1 h2 h3 => by
    have e1 := divInt_num_abs (if neg then -(n : Int) else n) d
    have e2 := divInt_den_le (if neg then -(n : Int) else n) d (by omega)
    have e3 : (if neg then -(n : Int) else n).natAbs = n := by split <;> omega
    rw [e3] at e1
    exact ⟨by omega, by omega⟩
  match ns, h with
  | [some n], h =>
    simp only [fracN] at h
    split at h
    · cases h
    · cases h
      exact key n 1 (hn n (by simp)) (by decide) (by decide)
  | [some n, some d], h =>
    rw [fracN_two] at h
    by_cases c1 : d < 2
    · rw [if_pos c1] at h; cases h
    rw [if_neg c1] at h
    by_cases c2 : neg = true ∧ n = 0
    · rw [if_pos c2] at h; cases h
    rw [if_neg c2] at h
    by_cases c3 : Int.gcd (if neg then -(n : Int) else n) d = 1
    · rw [if_pos c3] at h
      cases h
      exact key n d (hn n (by simp)) (hn d (by simp)) (by omega)
    · rw [if_neg c3] at h
      cases h
theorem fracOf_short {l : List Nat} {q : Rat} (h : fracOf l = some q) : Short q := by
  unfold fracOf at h
  refine fracN_short h fun n hn => ?_
  obtain ⟨w, _, e⟩ := List.mem_map.mp hn
  exact numOf_lt e
theorem knotOf_short {l : List Nat} {k : Kn} (h : knotOf l = some k) : Short k.1 ∧ Short k.2 := by
  rcases knotOf_eq l with ⟨_, _, a, b, e, e2⟩ | ⟨_, e⟩
  · rw [e2] at h
    cases h
    have h1 : some a ∈ (spl1 58 l).map fracOf := by rw [e]; simp
    have h2 : some b ∈ (spl1 58 l).map fracOf := by rw [e]; simp
    obtain ⟨w, _, e1⟩ := List.mem_map.mp h1
    obtain ⟨v, _, e2⟩ := List.mem_map.mp h2
    exact ⟨fracOf_short e1, fracOf_short e2⟩
  · rw [e] at h
    cases h
theorem knotsOf_short {ws : List (List Nat)} {ks : List Kn} (h : knotsOf ws = some ks) : ∀ k ∈ ks, Short k.1 ∧ Short k.2 := fun k hk => by
  unfold knotsOf at h
  split at h
  · cases h
  · have e := allSome_iff.mp h
    have : some k ∈ ws.map knotOf := by rw [e]; exact List.mem_map.mpr ⟨k, hk, rfl⟩
    obtain ⟨w, _, e2⟩ := List.mem_map.mp this
    exact knotOf_short e2
end DL

namespace DL
open PySem PySem.Spec PyProof.Rows L2 SX
section
variable {P : Program} {w : World} {K : PySem.W.Frag} {mg : Str → Option Value} {base : Heap}
theorem fn_okGD {x qual : Str} {st : Stmt} {f : Addr} {fd : FuncData} {N ps : List Str} {k n : Nat} {sp : DSp} {dvs : List V} {kws : List (Str × V)} (F : FunD K x qual (defArgs st) (defBody st) (defScope st) dvs kws f fd) (S : FnScope N ps (defScope st)) (hn : ps.length = n)
    (body : ∀ (cdv : Value) (A : Around) (outer : List Env) (s : Shared) (H : Hp) (E : XK), Room k (A.deeper (envOfC qual (defScope st) s.heap.objs.size f cdv)) → (A.deeper (envOfC qual (defScope st) s.heap.objs.size f cdv)).guards = some [] →
      ∃ t, PSs (cxOf (L2.CX P w) P w K mg base N qual (defScope st) f cdv A outer s H E) (defBody st) t ∧
        ∀ ds M kk xx, ds.length = n → sp ds M kk xx → XS (cfg K E xx) t (dstart N ds) M { nx := fun _ M' => kk .non M', rt := kk }) :
    FnG P w K mg base (L2.CX P w) (k + 1) f fd ps (spD K n sp) := by
  refine fnG_of F S (fun vs H Q E h => (spD_len vs H Q E h).trans hn.symm) fun cdv A outer s H vs Q E hr hg h => ?_
  obtain ⟨Fz, M, ds, st, r, hl, h⟩ := h
  obtain ⟨t, ht, hx⟩ := body cdv A outer s H E hr hg
  refine ⟨t, ht, hx ds M _ _ hl h Fz H _ st (EnvR.begun r) (fun ds0 σ0 cls fs M' F' H' d n _ q ex => q d F' H' n ex) _ ⟨?_, ?_, ?_, ?_⟩⟩
  · exact fun ds' M' σ' F' H' n e q => q .non F' H' n .non
  · exact fun d M' v F' H' n r q => q v F' H' n r
  · exact fun ds' M' σ' F' H' n e q => False.elim q
  · exact fun ds' M' σ' F' H' n e q => False.elim q
end
end DL
namespace DL
open PySem PySem.Spec PyProof.Rows L2 SX
theorem foldl_rep (c : Nat) : ∀ (n : Nat) (acc : List Nat), ((List.replicate n (#[c] : Array Nat)).foldl (· ++ ·) acc.toArray) = (acc ++ List.replicate n c).toArray
  | 0, acc => by simp
  | n + 1, acc => by
    rw [List.replicate_succ, List.foldl_cons]
    have e : acc.toArray ++ #[c] = (acc ++ [c]).toArray := by simp
    rw [e, foldl_rep c n (acc ++ [c]), List.replicate_succ, List.append_assoc]
    rfl
theorem mul_S (c : Nat) {n : Nat} (h : 1 < n) : Txt.mul (S [c]) (n : Int) = S (List.replicate n c) := by
  unfold Txt.mul
  rw [if_neg (by omega)]
  have e1 : ((n : Int) == 1) = false := by
    rw [beq_eq_false_iff_ne]
    omega
  have e2 : ((S [c]).length == 0) = false := rfl
  rw [e1, e2, Bool.or_self, if_neg (by decide), Int.toNat_natCast]
  have := foldl_rep c n []
  rw [List.nil_append] at this
  show (⟨_⟩ : Str) = ⟨_⟩
  exact congrArg Str.mk this
theorem mulOk_S (c : Nat) {n : Nat} (h : n ≤ 1000000) : MulOk (S [c]) (n : Int) := by
  have e : (S [c]).length = 1 := rfl
  refine ⟨?_, fun h1 _ => ?_, fun h1 _ => ?_⟩
  · rw [Bool.or_eq_false_iff]
    exact ⟨decide_eq_false (by omega), decide_eq_false (by omega)⟩
  · rw [e]
    have : (1 : Int) ≤ (2 ^ 63 - 1) / (n : Int) := by
      rw [Int.le_ediv_iff_mul_le (by omega)]
      omega
    omega
  · rw [e, Int.toNat_natCast, Nat.one_mul]
    show decide (n > sizeLine) = false
    exact decide_eq_false (by have := sizeLine_eq; omega)
end DL
namespace DL
open PySem PySem.Spec PyProof.Rows L2
theorem ox_mk {K : PySem.W.Frag} {C : Addr} {nm q : Str} {N : Addr} {bs bm : List Value} {sn : List Str} {sub : List Value} {ab : Bool} {col : Option Bool} {dd : Option Addr} {k0 k1 k2 k3 k5 : Option Value}
    (l : K.lookup C = some (excClassObj nm q C N bs bm true sn sub ab col dd k0 k1 k2 k3 k5 "ValueError.__new__")) (e : PySem.HandSPX.refsVE bm = true)
    (sa : PySem.W.findIn K (.ref C) "__setattr__" = some (some (.builtin "object.__setattr__"))) (exC : PySem.W.subIn K (.ref C) (.type "BaseException") = some true) (tyC : PySem.W.typeIn K (.ref C) = some (.type "type")) (kC : PySem.W.keepIn K (.ref C) = true) : OexC K C :=
  ⟨⟨nm, q, N, bs, bm, sn, sub, ab, col, dd, k0, k1, k2, k3, k5, l, e⟩, sa, exC, tyC, kC⟩
end DL

namespace My
open PySem L2 DL PyProof.Rows
def topS (i : Nat) : Stmt := PySem.Challenge.pw_handedpast_k85_table_texts_spoilt.main.body.getD i (.Pass ⟨0, 0, 0, 0⟩)

abbrev s_NoText_init : Stmt := inClass (topS 5) 0
abbrev N_NoText_init : List Str := ["self", "row"]
theorem sc_NoText_init : FnScope N_NoText_init ["self", "row"] (defScope s_NoText_init) := ⟨rfl, rfl, rfl, by decide +kernel, rfl, by decide +kernel, by decide +kernel⟩

abbrev s_is_whole : Stmt := topS 7
abbrev N_is_whole : List Str := ["value"]
theorem sc_is_whole : FnScope N_is_whole ["value"] (defScope s_is_whole) := ⟨rfl, rfl, rfl, by decide +kernel, rfl, by decide +kernel, by decide +kernel⟩

abbrev s_common_divisor : Stmt := topS 8
abbrev N_common_divisor : List Str := ["a", "b"]
theorem sc_common_divisor : FnScope N_common_divisor ["a", "b"] (defScope s_common_divisor) := ⟨rfl, rfl, rfl, by decide +kernel, rfl, by decide +kernel, by decide +kernel⟩

abbrev s_is_fraction : Stmt := topS 9
abbrev N_is_fraction : List Str := ["value"]
theorem sc_is_fraction : FnScope N_is_fraction ["value"] (defScope s_is_fraction) := ⟨rfl, rfl, rfl, by decide +kernel, rfl, by decide +kernel, by decide +kernel⟩

abbrev s_new_fraction : Stmt := topS 10
abbrev N_new_fraction : List Str := ["n", "d", "common"]
theorem sc_new_fraction : FnScope N_new_fraction ["n", "d"] (defScope s_new_fraction) := ⟨rfl, rfl, rfl, by decide +kernel, rfl, by decide +kernel, by decide +kernel⟩

abbrev s_rest_of : Stmt := topS 12
abbrev N_rest_of : List Str := ["a", "b"]
theorem sc_rest_of : FnScope N_rest_of ["a", "b"] (defScope s_rest_of) := ⟨rfl, rfl, rfl, by decide +kernel, rfl, by decide +kernel, by decide +kernel⟩

abbrev s_share_of : Stmt := topS 14
abbrev N_share_of : List Str := ["a", "b"]
theorem sc_share_of : FnScope N_share_of ["a", "b"] (defScope s_share_of) := ⟨rfl, rfl, rfl, by decide +kernel, rfl, by decide +kernel, by decide +kernel⟩

abbrev s_is_less : Stmt := topS 15
abbrev N_is_less : List Str := ["a", "b"]
theorem sc_is_less : FnScope N_is_less ["a", "b"] (defScope s_is_less) := ⟨rfl, rfl, rfl, by decide +kernel, rfl, by decide +kernel, by decide +kernel⟩

abbrev s_is_knot : Stmt := topS 18
abbrev N_is_knot : List Str := ["value"]
theorem sc_is_knot : FnScope N_is_knot ["value"] (defScope s_is_knot) := ⟨rfl, rfl, rfl, by decide +kernel, rfl, by decide +kernel, by decide +kernel⟩

abbrev s_are_knots : Stmt := topS 19
abbrev N_are_knots : List Str := ["value", "knot", "at"]
theorem sc_are_knots : FnScope N_are_knots ["value"] (defScope s_are_knots) := ⟨rfl, rfl, rfl, by decide +kernel, rfl, by decide +kernel, by decide +kernel⟩

abbrev s_slopes_of : Stmt := topS 20
abbrev N_slopes_of : List Str := ["points", "found", "one", "other"]
theorem sc_slopes_of : FnScope N_slopes_of ["points"] (defScope s_slopes_of) := ⟨rfl, rfl, rfl, by decide +kernel, rfl, by decide +kernel, by decide +kernel⟩

abbrev s_turns_of : Stmt := topS 21
abbrev N_turns_of : List Str := ["points", "slopes", "at"]
theorem sc_turns_of : FnScope N_turns_of ["points"] (defScope s_turns_of) := ⟨rfl, rfl, rfl, by decide +kernel, rfl, by decide +kernel, by decide +kernel⟩

abbrev s_Timetable_init : Stmt := inClass (topS 25) 1
abbrev N_Timetable_init : List Str := ["self", "knots"]
theorem sc_Timetable_init : FnScope N_Timetable_init ["self", "knots"] (defScope s_Timetable_init) := ⟨rfl, rfl, rfl, by decide +kernel, rfl, by decide +kernel, by decide +kernel⟩

abbrev s_Timetable_knots : Stmt := inClass (topS 25) 4
abbrev N_Timetable_knots : List Str := ["self"]
theorem sc_Timetable_knots : FnScope N_Timetable_knots ["self"] (defScope s_Timetable_knots) := ⟨rfl, rfl, rfl, by decide +kernel, rfl, by decide +kernel, by decide +kernel⟩

abbrev s_number_of : Stmt := topS 29
abbrev N_number_of : List Str := ["text", "sign"]
theorem sc_number_of : FnScope N_number_of ["text"] (defScope s_number_of) := ⟨rfl, rfl, rfl, by decide +kernel, rfl, by decide +kernel, by decide +kernel⟩

abbrev s_fraction_of : Stmt := topS 30
abbrev N_fraction_of : List Str := ["text", "bare", "parts", "numbers", "found", "part"]
theorem sc_fraction_of : FnScope N_fraction_of ["text"] (defScope s_fraction_of) := ⟨rfl, rfl, rfl, by decide +kernel, rfl, by decide +kernel, by decide +kernel⟩

abbrev s_knot_of : Stmt := topS 31
abbrev N_knot_of : List Str := ["text", "parts", "part"]
theorem sc_knot_of : FnScope N_knot_of ["text"] (defScope s_knot_of) := ⟨rfl, rfl, rfl, by decide +kernel, rfl, by decide +kernel, by decide +kernel⟩

abbrev s_knots_of : Stmt := topS 32
abbrev N_knots_of : List Str := ["words", "knots", "word"]
theorem sc_knots_of : FnScope N_knots_of ["words"] (defScope s_knots_of) := ⟨rfl, rfl, rfl, by decide +kernel, rfl, by decide +kernel, by decide +kernel⟩

abbrev s_read_table : Stmt := topS 33
abbrev N_read_table : List Str := ["text", "knots"]
theorem sc_read_table : FnScope N_read_table ["text"] (defScope s_read_table) := ⟨rfl, rfl, rfl, by decide +kernel, rfl, by decide +kernel, by decide +kernel⟩

abbrev s_L_begun : Stmt := topS 35
abbrev N_L_begun : List Str := ["script", "large", "cell"]
theorem sc_L_begun : FnScope N_L_begun ["script"] (defScope s_L_begun) := ⟨rfl, rfl, rfl, by decide +kernel, rfl, by decide +kernel, by decide +kernel⟩

abbrev s_L_mixed : Stmt := topS 36
abbrev N_L_mixed : List Str := ["state", "turn", "found", "prime", "blend", "cell"]
theorem sc_L_mixed : FnScope N_L_mixed ["state"] (defScope s_L_mixed) := ⟨rfl, rfl, rfl, by decide +kernel, rfl, by decide +kernel, by decide +kernel⟩

abbrev s_L_draw : Stmt := topS 37
abbrev N_L_draw : List Str := ["state", "size", "found"]
theorem sc_L_draw : FnScope N_L_draw ["state", "size"] (defScope s_L_draw) := ⟨rfl, rfl, rfl, by decide +kernel, rfl, by decide +kernel, by decide +kernel⟩

abbrev s_L_pick : Stmt := topS 38
abbrev N_L_pick : List Str := ["state", "items"]
theorem sc_L_pick : FnScope N_L_pick ["state", "items"] (defScope s_L_pick) := ⟨rfl, rfl, rfl, by decide +kernel, rfl, by decide +kernel, by decide +kernel⟩

abbrev s_L_frac : Stmt := topS 39
abbrev N_L_frac : List Str := ["n", "d", "one", "other"]
theorem sc_L_frac : FnScope N_L_frac ["n", "d"] (defScope s_L_frac) := ⟨rfl, rfl, rfl, by decide +kernel, rfl, by decide +kernel, by decide +kernel⟩

abbrev s_L_less : Stmt := topS 40
abbrev N_L_less : List Str := ["a", "b"]
theorem sc_L_less : FnScope N_L_less ["a", "b"] (defScope s_L_less) := ⟨rfl, rfl, rfl, by decide +kernel, rfl, by decide +kernel, by decide +kernel⟩

abbrev s_L_in_order : Stmt := topS 41
abbrev N_L_in_order : List Str := ["times", "found", "time", "at"]
theorem sc_L_in_order : FnScope N_L_in_order ["times"] (defScope s_L_in_order) := ⟨rfl, rfl, rfl, by decide +kernel, rfl, by decide +kernel, by decide +kernel⟩

abbrev s_L_long : Stmt := topS 42
abbrev N_L_long : List Str := ["state", "found", "turn"]
theorem sc_L_long : FnScope N_L_long ["state"] (defScope s_L_long) := ⟨rfl, rfl, rfl, by decide +kernel, rfl, by decide +kernel, by decide +kernel⟩

abbrev s_L_any_fraction : Stmt := topS 43
abbrev N_L_any_fraction : List Str := ["state", "n"]
theorem sc_L_any_fraction : FnScope N_L_any_fraction ["state"] (defScope s_L_any_fraction) := ⟨rfl, rfl, rfl, by decide +kernel, rfl, by decide +kernel, by decide +kernel⟩

abbrev s_L_fraction_text : Stmt := topS 44
abbrev N_L_fraction_text : List Str := ["x"]
theorem sc_L_fraction_text : FnScope N_L_fraction_text ["x"] (defScope s_L_fraction_text) := ⟨rfl, rfl, rfl, by decide +kernel, rfl, by decide +kernel, by decide +kernel⟩

abbrev s_L_knot_text : Stmt := topS 45
abbrev N_L_knot_text : List Str := ["knot"]
theorem sc_L_knot_text : FnScope N_L_knot_text ["knot"] (defScope s_L_knot_text) := ⟨rfl, rfl, rfl, by decide +kernel, rfl, by decide +kernel, by decide +kernel⟩

abbrev s_L_number : Stmt := topS 46
abbrev N_L_number : List Str := ["text", "found", "sign"]
theorem sc_L_number : FnScope N_L_number ["text"] (defScope s_L_number) := ⟨rfl, rfl, rfl, by decide +kernel, rfl, by decide +kernel, by decide +kernel⟩

abbrev s_L_fraction : Stmt := topS 47
abbrev N_L_fraction : List Str := ["text", "bare", "parts", "n", "d", "found"]
theorem sc_L_fraction : FnScope N_L_fraction ["text"] (defScope s_L_fraction) := ⟨rfl, rfl, rfl, by decide +kernel, rfl, by decide +kernel, by decide +kernel⟩

abbrev s_L_knots_read : Stmt := topS 48
abbrev N_L_knots_read : List Str := ["words", "found", "word", "parts", "part"]
theorem sc_L_knots_read : FnScope N_L_knots_read ["words"] (defScope s_L_knots_read) := ⟨rfl, rfl, rfl, by decide +kernel, rfl, by decide +kernel, by decide +kernel⟩

abbrev s_L_spoilt_text : Stmt := topS 49
abbrev N_L_spoilt_text : List Str := ["state", "text", "at", "way", "sign", "to"]
theorem sc_L_spoilt_text : FnScope N_L_spoilt_text ["state", "text"] (defScope s_L_spoilt_text) := ⟨rfl, rfl, rfl, by decide +kernel, rfl, by decide +kernel, by decide +kernel⟩

abbrev s_L_said : Stmt := topS 50
abbrev N_L_said : List Str := ["text", "caught", "found", "e"]
theorem sc_L_said : FnScope N_L_said ["text"] (defScope s_L_said) := ⟨rfl, rfl, rfl, by decide +kernel, rfl, by decide +kernel, by decide +kernel⟩

abbrev s_L_due : Stmt := topS 51
abbrev N_L_due : List Str := ["text", "knots", "times", "knot"]
theorem sc_L_due : FnScope N_L_due ["text"] (defScope s_L_due) := ⟨rfl, rfl, rfl, by decide +kernel, rfl, by decide +kernel, by decide +kernel⟩

abbrev s_L_whole_text : Stmt := topS 52
abbrev N_L_whole_text : List Str := ["state", "small", "times", "way", "knots", "turn", "k", "time", "knot"]
theorem sc_L_whole_text : FnScope N_L_whole_text ["state"] (defScope s_L_whole_text) := ⟨rfl, rfl, rfl, by decide +kernel, rfl, by decide +kernel, by decide +kernel⟩

abbrev s_law : Stmt := topS 53
abbrev N_law : List Str := ["script", "state", "turn", "text", "change", "odd"]
theorem sc_law : FnScope N_law ["script"] (defScope s_law) := ⟨rfl, rfl, rfl, by decide +kernel, rfl, by decide +kernel, by decide +kernel⟩

structure Txt (K : PySem.W.Frag) (mg : Str → Option Value) where
  is_whole : FnT K mg "is_whole" s_is_whole [] []
  common_divisor : FnT K mg "common_divisor" s_common_divisor [] []
  is_fraction : FnT K mg "is_fraction" s_is_fraction [] []
  new_fraction : FnT K mg "new_fraction" s_new_fraction [.int 1] []
  rest_of : FnT K mg "rest_of" s_rest_of [] []
  share_of : FnT K mg "share_of" s_share_of [] []
  is_less : FnT K mg "is_less" s_is_less [] []
  is_knot : FnT K mg "is_knot" s_is_knot [] []
  are_knots : FnT K mg "are_knots" s_are_knots [] []
  slopes_of : FnT K mg "slopes_of" s_slopes_of [] []
  turns_of : FnT K mg "turns_of" s_turns_of [] []
  number_of : FnT K mg "number_of" s_number_of [] []
  fraction_of : FnT K mg "fraction_of" s_fraction_of [] []
  knot_of : FnT K mg "knot_of" s_knot_of [] []
  knots_of : FnT K mg "knots_of" s_knots_of [] []
  read_table : FnT K mg "read_table" s_read_table [] []
  L_begun : FnT K mg "_law_begun" s_L_begun [] []
  L_mixed : FnT K mg "_law_mixed" s_L_mixed [] []
  L_draw : FnT K mg "_law_draw" s_L_draw [] []
  L_pick : FnT K mg "_law_pick" s_L_pick [] []
  L_frac : FnT K mg "_law_frac" s_L_frac [] []
  L_less : FnT K mg "_law_less" s_L_less [] []
  L_in_order : FnT K mg "_law_in_order" s_L_in_order [] []
  L_long : FnT K mg "_law_long" s_L_long [] []
  L_any_fraction : FnT K mg "_law_any_fraction" s_L_any_fraction [] []
  L_fraction_text : FnT K mg "_law_fraction_text" s_L_fraction_text [] []
  L_knot_text : FnT K mg "_law_knot_text" s_L_knot_text [] []
  L_number : FnT K mg "_law_number" s_L_number [] []
  L_fraction : FnT K mg "_law_fraction" s_L_fraction [] []
  L_knots_read : FnT K mg "_law_knots_read" s_L_knots_read [] []
  L_spoilt_text : FnT K mg "_law_spoilt_text" s_L_spoilt_text [] []
  L_said : FnT K mg "_law_said" s_L_said [] []
  L_due : FnT K mg "_law_due" s_L_due [] []
  L_whole_text : FnT K mg "_law_whole_text" s_L_whole_text [] []
  law : FnT K mg "law" s_law [] []
  C_TrackError : Addr
  C_NoTable : Addr
  C_NoTime : Addr
  C_NoText : Addr
  C_Timetable : Addr
  g_TrackError : mg "TrackError" = some (.ref C_TrackError)
  g_NoTable : mg "NoTable" = some (.ref C_NoTable)
  ec_NoTable : ExcC K C_NoTable
  ex_NoTable_TrackError : PySem.W.exmOne K (.ref C_NoTable) (.ref C_TrackError) = some true
  kt_NoTable_NoText : PySem.W.kitOne K (.ref C_NoTable) (.ref C_NoText) = some false
  kt_NoTable_NoTable : PySem.W.kitOne K (.ref C_NoTable) (.ref C_NoTable) = some true
  x_NoTable : PySem.W.excIn K C_NoTable [.type "ValueError", .type "Exception", .type "BaseException", .type "object"] "ValueError.__new__" = true
  k_NoTable : PySem.W.keepIn K (.ref C_NoTable) = true
  be_NoTable : PySem.W.subIn K (.ref C_NoTable) (.type "BaseException") = some true
  te_NoTable : PySem.W.typeIn K (.ref C_NoTable) = some (.type "type")
  g_NoTime : mg "NoTime" = some (.ref C_NoTime)
  g_NoText : mg "NoText" = some (.ref C_NoText)
  ec_NoText : ExcC K C_NoText
  ex_NoText_TrackError : PySem.W.exmOne K (.ref C_NoText) (.ref C_TrackError) = some true
  kt_NoText_NoText : PySem.W.kitOne K (.ref C_NoText) (.ref C_NoText) = some true
  kt_NoText_NoTable : PySem.W.kitOne K (.ref C_NoText) (.ref C_NoTable) = some false
  NoText_init : MeT K C_NoText "__init__" "NoText.__init__" s_NoText_init
  ox_NoText : OexC K C_NoText
  xf_NoText : XfC K C_NoText
  ti_NoText : PySem.W.typeIn K (.ref NoText_init.a) = some (.type "function")
  nf_NoText_row : PySem.W.findIn K (.ref C_NoText) "row" = some none
  g_Timetable : mg "Timetable" = some (.ref C_Timetable)
  cl_Timetable : Cls K C_Timetable
  ty_Timetable : TyC K C_Timetable
  ki_Timetable : PySem.W.kitOne K (.ref C_Timetable) (.ref C_Timetable) = some true
  na_Timetable_points : NoAttr K C_Timetable "points"
  na_Timetable_turns : NoAttr K C_Timetable "turns"
  Timetable_init : MeT K C_Timetable "__init__" "Timetable.__init__" s_Timetable_init
  Timetable_knots : MeT K C_Timetable "knots" "Timetable.knots" s_Timetable_knots
  mk_Timetable : Mk K C_Timetable Timetable_init.a
  con_Timetable_MOST : ∃ u, Con K C_Timetable "MOST" (.int 40) u
  a_ZERO : Addr
  g_ZERO : mg "ZERO" = some (.ref a_ZERO)
  t_ZERO : ∀ F, Rep K F (.tup [.int 0, .int 1]) (.ref a_ZERO)
  c_DIGITS : ∃ u, mg "DIGITS" = some u ∧ RelV (.str "0123456789") u
  c_MOST_DIGITS : ∃ u, mg "MOST_DIGITS" = some u ∧ RelV (.int 60) u
  m_isinstance : mg "isinstance" = none
  m_int : mg "int" = none
  m_bool : mg "bool" = none
  m_abs : mg "abs" = none
  m_tuple : mg "tuple" = none
  m_len : mg "len" = none
  m_range : mg "range" = none
  m_list : mg "list" = none
  m_zip : mg "zip" = none
  m_str : mg "str" = none
  m_max : mg "max" = none
  m_min : mg "min" = none
  m_repr : mg "repr" = none
  m_enumerate : mg "enumerate" = none
section
variable {K : PySem.W.Frag} {mg : Str → Option Value}
theorem b_NoText_init (T : Txt K mg) : Binds K T.NoText_init.fd ["self", "row"] [] := T.NoText_init.F.bindsN fun _ _ _ _ _ _ us hl => match us, hl with | [_, _], _ => rfl
theorem b_is_whole (T : Txt K mg) : Binds K T.is_whole.fd ["value"] [] := T.is_whole.F.bindsN fun _ _ _ _ _ _ us hl => match us, hl with | [_], _ => rfl
theorem b_common_divisor (T : Txt K mg) : Binds K T.common_divisor.fd ["a", "b"] [] := T.common_divisor.F.bindsN fun _ _ _ _ _ _ us hl => match us, hl with | [_, _], _ => rfl
theorem b_is_fraction (T : Txt K mg) : Binds K T.is_fraction.fd ["value"] [] := T.is_fraction.F.bindsN fun _ _ _ _ _ _ us hl => match us, hl with | [_], _ => rfl
theorem b_new_fraction (T : Txt K mg) : Binds K T.new_fraction.fd ["n", "d"] [] := by
  obtain ⟨ds, hv, hb⟩ := T.new_fraction.F.binds1 (ps := ["n", "d"]) 2 1 (by decide) (by decide) fun _ _ _ _ _ _ _ us its h1 h2 => match us, its, h1, h2 with | [_, _], [_], _, _ => ⟨_, rfl, rfl⟩
  cases hv
  exact hb
theorem b_rest_of (T : Txt K mg) : Binds K T.rest_of.fd ["a", "b"] [] := T.rest_of.F.bindsN fun _ _ _ _ _ _ us hl => match us, hl with | [_, _], _ => rfl
theorem b_share_of (T : Txt K mg) : Binds K T.share_of.fd ["a", "b"] [] := T.share_of.F.bindsN fun _ _ _ _ _ _ us hl => match us, hl with | [_, _], _ => rfl
theorem b_is_less (T : Txt K mg) : Binds K T.is_less.fd ["a", "b"] [] := T.is_less.F.bindsN fun _ _ _ _ _ _ us hl => match us, hl with | [_, _], _ => rfl
theorem b_is_knot (T : Txt K mg) : Binds K T.is_knot.fd ["value"] [] := T.is_knot.F.bindsN fun _ _ _ _ _ _ us hl => match us, hl with | [_], _ => rfl
theorem b_are_knots (T : Txt K mg) : Binds K T.are_knots.fd ["value"] [] := T.are_knots.F.bindsN fun _ _ _ _ _ _ us hl => match us, hl with | [_], _ => rfl
theorem b_slopes_of (T : Txt K mg) : Binds K T.slopes_of.fd ["points"] [] := T.slopes_of.F.bindsN fun _ _ _ _ _ _ us hl => match us, hl with | [_], _ => rfl
theorem b_turns_of (T : Txt K mg) : Binds K T.turns_of.fd ["points"] [] := T.turns_of.F.bindsN fun _ _ _ _ _ _ us hl => match us, hl with | [_], _ => rfl
theorem b_Timetable_init (T : Txt K mg) : Binds K T.Timetable_init.fd ["self", "knots"] [] := T.Timetable_init.F.bindsN fun _ _ _ _ _ _ us hl => match us, hl with | [_, _], _ => rfl
theorem b_Timetable_knots (T : Txt K mg) : Binds K T.Timetable_knots.fd ["self"] [] := T.Timetable_knots.F.bindsN fun _ _ _ _ _ _ us hl => match us, hl with | [_], _ => rfl
theorem b_number_of (T : Txt K mg) : Binds K T.number_of.fd ["text"] [] := T.number_of.F.bindsN fun _ _ _ _ _ _ us hl => match us, hl with | [_], _ => rfl
theorem b_fraction_of (T : Txt K mg) : Binds K T.fraction_of.fd ["text"] [] := T.fraction_of.F.bindsN fun _ _ _ _ _ _ us hl => match us, hl with | [_], _ => rfl
theorem b_knot_of (T : Txt K mg) : Binds K T.knot_of.fd ["text"] [] := T.knot_of.F.bindsN fun _ _ _ _ _ _ us hl => match us, hl with | [_], _ => rfl
theorem b_knots_of (T : Txt K mg) : Binds K T.knots_of.fd ["words"] [] := T.knots_of.F.bindsN fun _ _ _ _ _ _ us hl => match us, hl with | [_], _ => rfl
theorem b_read_table (T : Txt K mg) : Binds K T.read_table.fd ["text"] [] := T.read_table.F.bindsN fun _ _ _ _ _ _ us hl => match us, hl with | [_], _ => rfl
theorem b_L_begun (T : Txt K mg) : Binds K T.L_begun.fd ["script"] [] := T.L_begun.F.bindsN fun _ _ _ _ _ _ us hl => match us, hl with | [_], _ => rfl
theorem b_L_mixed (T : Txt K mg) : Binds K T.L_mixed.fd ["state"] [] := T.L_mixed.F.bindsN fun _ _ _ _ _ _ us hl => match us, hl with | [_], _ => rfl
theorem b_L_draw (T : Txt K mg) : Binds K T.L_draw.fd ["state", "size"] [] := T.L_draw.F.bindsN fun _ _ _ _ _ _ us hl => match us, hl with | [_, _], _ => rfl
theorem b_L_pick (T : Txt K mg) : Binds K T.L_pick.fd ["state", "items"] [] := T.L_pick.F.bindsN fun _ _ _ _ _ _ us hl => match us, hl with | [_, _], _ => rfl
theorem b_L_frac (T : Txt K mg) : Binds K T.L_frac.fd ["n", "d"] [] := T.L_frac.F.bindsN fun _ _ _ _ _ _ us hl => match us, hl with | [_, _], _ => rfl
theorem b_L_less (T : Txt K mg) : Binds K T.L_less.fd ["a", "b"] [] := T.L_less.F.bindsN fun _ _ _ _ _ _ us hl => match us, hl with | [_, _], _ => rfl
theorem b_L_in_order (T : Txt K mg) : Binds K T.L_in_order.fd ["times"] [] := T.L_in_order.F.bindsN fun _ _ _ _ _ _ us hl => match us, hl with | [_], _ => rfl
theorem b_L_long (T : Txt K mg) : Binds K T.L_long.fd ["state"] [] := T.L_long.F.bindsN fun _ _ _ _ _ _ us hl => match us, hl with | [_], _ => rfl
theorem b_L_any_fraction (T : Txt K mg) : Binds K T.L_any_fraction.fd ["state"] [] := T.L_any_fraction.F.bindsN fun _ _ _ _ _ _ us hl => match us, hl with | [_], _ => rfl
theorem b_L_fraction_text (T : Txt K mg) : Binds K T.L_fraction_text.fd ["x"] [] := T.L_fraction_text.F.bindsN fun _ _ _ _ _ _ us hl => match us, hl with | [_], _ => rfl
theorem b_L_knot_text (T : Txt K mg) : Binds K T.L_knot_text.fd ["knot"] [] := T.L_knot_text.F.bindsN fun _ _ _ _ _ _ us hl => match us, hl with | [_], _ => rfl
theorem b_L_number (T : Txt K mg) : Binds K T.L_number.fd ["text"] [] := T.L_number.F.bindsN fun _ _ _ _ _ _ us hl => match us, hl with | [_], _ => rfl
theorem b_L_fraction (T : Txt K mg) : Binds K T.L_fraction.fd ["text"] [] := T.L_fraction.F.bindsN fun _ _ _ _ _ _ us hl => match us, hl with | [_], _ => rfl
theorem b_L_knots_read (T : Txt K mg) : Binds K T.L_knots_read.fd ["words"] [] := T.L_knots_read.F.bindsN fun _ _ _ _ _ _ us hl => match us, hl with | [_], _ => rfl
theorem b_L_spoilt_text (T : Txt K mg) : Binds K T.L_spoilt_text.fd ["state", "text"] [] := T.L_spoilt_text.F.bindsN fun _ _ _ _ _ _ us hl => match us, hl with | [_, _], _ => rfl
theorem b_L_said (T : Txt K mg) : Binds K T.L_said.fd ["text"] [] := T.L_said.F.bindsN fun _ _ _ _ _ _ us hl => match us, hl with | [_], _ => rfl
theorem b_L_due (T : Txt K mg) : Binds K T.L_due.fd ["text"] [] := T.L_due.F.bindsN fun _ _ _ _ _ _ us hl => match us, hl with | [_], _ => rfl
theorem b_L_whole_text (T : Txt K mg) : Binds K T.L_whole_text.fd ["state"] [] := T.L_whole_text.F.bindsN fun _ _ _ _ _ _ us hl => match us, hl with | [_], _ => rfl
theorem b_law (T : Txt K mg) : Binds K T.law.fd ["script"] [] := T.law.F.bindsN fun _ _ _ _ _ _ us hl => match us, hl with | [_], _ => rfl
end

end My
namespace My
open PySem L2 DL PyProof.Rows
theorem idS {C : Cfg} {t : TS} {ds : DS} {M : Mem} {P : Post} (h : XS C t ds M P) : XS C t ds M P := h
theorem idE {C : Cfg} {t : TE} {ds : DS} {M : Mem} {k : D → Mem → Prop} (h : DL.XE C t ds M k) : DL.XE C t ds M k := h
theorem idT {C : Cfg} {t : TT} {ds : DS} {M : Mem} {k : Bool → Mem → Prop} (h : XT C t ds M k) : XT C t ds M k := h
theorem idA {C : Cfg} {t : TA} {ds : DS} {M : Mem} {k : List D → Mem → Prop} (h : XA C t ds M k) : XA C t ds M k := h
theorem idR {K : PySem.W.Frag} {r : R2} {x y : D} {M : Mem} {k : D → Mem → Prop} (h : XR K r x y M k) : XR K r x y M k := h
theorem idG {C : Cfg} {g : TG} {x : D} {ds : DS} {M : Mem} {js : List Nat} {k : DS → Mem → Prop} (h : XG C g x ds M js k) : XG C g x ds M js k := h
theorem idGs {C : Cfg} {g : TGs} {x : List D} {ds : DS} {M : Mem} {js : List Nat} {k : DS → Mem → Prop} (h : XGs C g x ds M js k) : XGs C g x ds M js k := h
theorem idO {C : Cfg} {g : TO} {ds : DS} {M : Mem} {k : Option Int → Mem → Prop} (h : XO C g ds M k) : XO C g ds M k := h
theorem pickT {A B : Prop} {b : Bool} (hb : b = true) (h : A) : (b = true → A) ∧ (b = false → B) := ⟨fun _ => h, fun z => by rw [hb] at z; cases z⟩
theorem pickF {A B : Prop} {b : Bool} (hb : b = false) (h : B) : (b = true → A) ∧ (b = false → B) := ⟨fun z => (by rw [hb] at z; cases z), fun _ => h⟩
theorem ex1 {A : Bool → Prop} {b : Bool} (h1 : A b) : ∃ c, D.bl b = .bl c ∧ A c := ⟨b, rfl, h1⟩
local macro_rules | `(tactic| walk_at "go") => `(tactic| repeat (first
  | ((with_reducible refine idE ?_); first
    | ((with_reducible apply XE.var); · exact rfl)
    | (with_reducible first
      | refine XE.op ?_
      | refine XE.int ?_
      | refine XE.str ?_
      | refine XE.ite ?_
      | refine XE.cb ?_
      | refine XE.tup ?_
      | refine XE.bl ?_
      | refine XE.non ?_
      | refine XE.ty ?_
      | refine XE.un ?_
      | refine XE.andV ?_
      | refine XE.orV ?_
      | refine XE.notV ?_
      | refine XE.slice ?_
      | refine XE.chain ?_))
  | ((with_reducible refine idA ?_); with_reducible first
      | refine XA.nil ?_
      | refine XA.cons ?_)
  | ((with_reducible refine idR ?_); first
      | (with_reducible first
        | refine XR.add_int ?_
        | refine XR.eq_int ?_
        | refine XR.ne_int ?_
        | refine XR.i0 ?_
        | refine XR.b0 ?_
        | refine XR.isN ?_
        | refine XR.ntN ?_)
      | refine XR.ix_tup rfl ?_
      | refine XR.ix_lst (by first | exact LsAt.lst | exact LsAt.raw At.hd) rfl ?_)
  | ((with_reducible refine idS ?_); with_reducible first
      | refine XS.seq ?_
      | refine XS.asg ?_
      | refine XS.ret ?_
      | refine XS.ifs ?_
      | refine XS.next ?_
      | refine XS.drop ?_
      | refine XS.par ?_)
  | ((with_reducible refine idT ?_); with_reducible first
      | refine XT.tst ?_
      | refine XT.bool ?_
      | refine XT.and ?_
      | refine XT.or ?_
      | refine XT.not ?_)
  | with_reducible refine ex1 ?_
  | refine pickF rfl ?_
  | refine pickT rfl ?_
  | ((with_reducible refine idO ?_); with_reducible first
      | refine XO.none ?_
      | refine XO.some ?_)
  | ((with_reducible refine idGs ?_); with_reducible first
      | refine XGs.nil ?_
      | refine XGs.cons ?_)
  | ((with_reducible refine idG ?_); with_reducible first
      | refine XG.name (by simp) ?_
      | refine XG.tup rfl ?_)
  | with_reducible refine XC.abs ?_
  | with_reducible refine XU.neg ?_
  | refine ⟨_, _, rfl, ?_⟩
  | refine ⟨_, rfl, ?_⟩
  | refine ⟨show (_ : Nat) + 1 ≤ 16000000 by simp only [List.length_cons, List.length_nil] <;> decide, ?_⟩
  | dsimp only))
local macro_rules | `(tactic| walk_at "sp") => `(tactic| first | refine ⟨[], _, rfl, rfl, ?_⟩ | refine ⟨rfl, ?_⟩)

/-- isinstance against a built-in type -/
def isTyB (a n : String) : Bool := a == n || (a == "bool" && n == "int")
theorem kit_tab : ∀ a ∈ ["NoneType", "bool", "int", "str", "tuple", "list", "dict"], ∀ n ∈ ["int", "bool", "str", "tuple", "list", "dict"], kitB a n = some (isTyB a n) := by decide +kernel
def D.isT (d : D) (n : String) : Bool := match d.tyN with
  | some a => isTyB a n
  | none => false
theorem tyN_in {d : D} {a : String} (h : d.tyN = some a) : a ∈ ["NoneType", "bool", "int", "str", "tuple", "list", "dict"] := by
  cases d <;> simp [D.tyN] at h <;> subst h <;> simp
theorem XC.isT {K : PySem.W.Frag} {M : Mem} {k : D → Mem → Prop} {d : D} {n : String} (h : d.tyN.isSome = true) (hn : n ∈ ["int", "bool", "str", "tuple", "list", "dict"]) (q : k (.bl (D.isT d n)) M) : XC K (rIsi K) [d, .ty n] M k := by
  obtain ⟨a, ha⟩ := Option.isSome_iff_exists.mp h
  refine XC.isi_ty ha (kit_tab a (tyN_in ha) n hn) ?_
  unfold D.isT at q
  rw [ha] at q
  exact q
def D.isW (d : D) : Bool := D.isT d "int" && !D.isT d "bool"
def spl_is_whole : PSp := fun ds k _ => ∃ d : D, ds = [d] ∧ d.tyN.isSome = true ∧ k (.bl (D.isW d))
theorem mo_is_whole : MonoP spl_is_whole := fun _ _ _ _ _ hk _ ⟨d, e, h, q⟩ => ⟨d, e, h, hk _ q⟩
def spl_common_divisor : PSp := fun ds k _ => ∃ a b : Int, ds = [.int a, .int b] ∧ k (.int (Int.gcd a b : Int))
theorem mo_common_divisor : MonoP spl_common_divisor := fun _ _ _ _ _ hk _ ⟨d, b, e, q⟩ => ⟨d, b, e, hk _ q⟩
def spl_new_fraction : PSp := fun ds k _ => ∃ (n d : Int) (b : Nat), ds = [.int n, .int d] ∧ d ≠ 0 ∧ B b d ∧ 0 < b ∧ b ≤ 9000 ∧ k (dQ (Rat.divInt n d))
theorem mo_new_fraction : MonoP spl_new_fraction := fun _ _ _ _ _ hk _ ⟨n, d, b, e, h1, h2, h3, h4, q⟩ => ⟨n, d, b, e, h1, h2, h3, h4, hk _ q⟩
def spl_is_less : PSp := fun ds k _ => ∃ (p q : Rat) (b : Nat), ds = [dQ p, dQ q] ∧ BQ b p ∧ BQ b q ∧ 0 < b ∧ b ≤ 4000 ∧ k (.bl (decide (p < q)))
theorem mo_is_less : MonoP spl_is_less := fun _ _ _ _ _ hk _ ⟨n, d, b, e, h1, h2, h3, h4, q⟩ => ⟨n, d, b, e, h1, h2, h3, h4, hk _ q⟩
def spl_sum_of : PSp := fun ds k _ => ∃ (p q : Rat) (b : Nat), ds = [dQ p, dQ q] ∧ BQ b p ∧ BQ b q ∧ 0 < b ∧ b ≤ 4000 ∧ k (dQ (p + q))
theorem mo_sum_of : MonoP spl_sum_of := fun _ _ _ _ _ hk _ ⟨n, d, b, e, h1, h2, h3, h4, q⟩ => ⟨n, d, b, e, h1, h2, h3, h4, hk _ q⟩
def spl_rest_of : PSp := fun ds k _ => ∃ (p q : Rat) (b : Nat), ds = [dQ p, dQ q] ∧ BQ b p ∧ BQ b q ∧ 0 < b ∧ b ≤ 4000 ∧ k (dQ (p - q))
theorem mo_rest_of : MonoP spl_rest_of := fun _ _ _ _ _ hk _ ⟨n, d, b, e, h1, h2, h3, h4, q⟩ => ⟨n, d, b, e, h1, h2, h3, h4, hk _ q⟩
def spl_product_of : PSp := fun ds k _ => ∃ (p q : Rat) (b : Nat), ds = [dQ p, dQ q] ∧ BQ b p ∧ BQ b q ∧ 0 < b ∧ b ≤ 4000 ∧ k (dQ (p * q))
theorem mo_product_of : MonoP spl_product_of := fun _ _ _ _ _ hk _ ⟨n, d, b, e, h1, h2, h3, h4, q⟩ => ⟨n, d, b, e, h1, h2, h3, h4, hk _ q⟩
def spl_share_of : PSp := fun ds k _ => ∃ (p q : Rat) (b : Nat), ds = [dQ p, dQ q] ∧ BQ b p ∧ BQ b q ∧ 0 < b ∧ b ≤ 4000 ∧ q ≠ 0 ∧ k (dQ (p / q))
theorem mo_share_of : MonoP spl_share_of := fun _ _ _ _ _ hk _ ⟨n, d, b, e, h1, h2, h3, h4, h5, q⟩ => ⟨n, d, b, e, h1, h2, h3, h4, h5, hk _ q⟩
section
variable {P : Program} {w : World} {K : PySem.W.Frag} {mg : Str → Option Value} {base : Heap}
theorem ok_is_whole (T : Txt K mg) : FnOk P w K mg base (L2.CX P w) 1 T.is_whole.a T.is_whole.fd ["value"] (spD K 1 (pur (spl_is_whole))) := by
  refine fn_okP T.is_whole.F sc_is_whole rfl fun cdv A outer s H E hr => ?_
  have nd := sc_is_whole.nd
  have hu64 := hr.units
  have hu65 := hu65_of hr
  have hu1 := hu_of hr
  refine ⟨_, (pss_one (ps_ret (pe_and (pe_callB (cr_isiK (K := K) rfl) (by rfl) T.m_isinstance boot_isinstance (pa_cons (pv 0) (pa_cons (pe_bltn (v := .ty "int") (by rfl) T.m_int boot_int rfl) pa_nil))) (pe_one (pe_not (pe_callB (cr_isiK (K := K) rfl) (by rfl) T.m_isinstance boot_isinstance (pa_cons (pv 0) (pa_cons (pe_bltn (v := .ty "bool") (by rfl) T.m_bool boot_bool rfl) pa_nil)))))))), fun ds kk xx hl h => ?_⟩
  try dsimp only [cxOf]
  obtain ⟨d, rfl, hd, hk⟩ := h
  walk_at "go"
  refine XC.isT hd (by simp) ?_
  unfold D.isW at hk
  walk_at "go"
  refine ⟨fun hb => ?_, fun hb => ?_⟩
  · walk_at "go"
    refine XC.isT hd (by simp) ?_
    walk_at "go"
    rw [hb, Bool.true_and] at hk
    exact hk
  · rw [hb, Bool.false_and] at hk
    exact hk
theorem ok_common_divisor (T : Txt K mg) : FnOk P w K mg base (L2.CX P w) 1 T.common_divisor.a T.common_divisor.fd ["a", "b"] (spD K 2 (pur (spl_common_divisor))) := by
  refine fn_okP T.common_divisor.F sc_common_divisor rfl fun cdv A outer s H E hr => ?_
  have nd := sc_common_divisor.nd
  have hu64 := hr.units
  have hu65 := hu65_of hr
  have hu1 := hu_of hr
  refine ⟨_, (pss_cons (ps_par (i := 0) (j := 1) rfl nd rfl rfl (by decide) rfl rfl (pa_cons (pe_callB cr_abs (by rfl) T.m_abs boot_abs (pa_cons (pv 0) pa_nil)) (pa_cons (pe_callB cr_abs (by rfl) T.m_abs boot_abs (pa_cons (pv 1) pa_nil)) pa_nil)) (by rfl))
      (pss_cons (ps_while (passes_of rfl) (pt_cmpR (op_neK (K := K) rfl hu64) (pv 1) pe_int (nomark _)) (pss_one (ps_par (i := 0) (j := 1) rfl nd rfl rfl (by decide) rfl rfl (pa_cons (pv 1) (pa_cons (pe_op op_modN (pv 0) (pv 1)) pa_nil)) (by rfl))))
      (pss_one (ps_ret (pv 0))))), fun ds kk xx hl h => ?_⟩
  try dsimp only [cxOf]
  obtain ⟨a, b, rfl, hk⟩ := h
  walk_at "go"
  refine XS.while (fun m ds M => ∃ x y : Nat, ds = [some (.int x), some (.int y)] ∧ Nat.gcd x y = Int.gcd a b ∧ m = y ∧ M = []) b.natAbs ⟨_, _, rfl, rfl, rfl, rfl⟩ ?_
  rintro m _ M ⟨x, y, rfl, hg, rfl, rfl⟩
  walk_at "go"
  refine ⟨fun hb => ?_, fun hb => ?_⟩
  · have hy : m ≠ 0 := by simpa using hb
    walk_at "go"
    refine XR.i (by simpa using hy) ?_
    walk_at "go"
    refine ⟨x % m, Nat.mod_lt _ (by omega), m, x % m, ?_, ?_, rfl, rfl⟩
    · rw [Int.fmod_eq_emod_of_nonneg _ (by omega)]
      rfl
    · rw [Nat.gcd_comm, ← hg, Nat.gcd_comm x m]
      exact (Nat.gcd_rec m x).symm
  · have hy : m = 0 := by simpa using hb
    subst hy
    rw [Nat.gcd_zero_right] at hg
    walk_at "go"
    rw [hg]
    exact hk
theorem ok_new_fraction (T : Txt K mg) : FnOk P w K mg base (L2.CX P w) 2 T.new_fraction.a T.new_fraction.fd ["n", "d"] (spD K 2 (pur (spl_new_fraction))) := by
  refine fn_okP T.new_fraction.F sc_new_fraction rfl fun cdv A outer s H E hr => ?_
  have nd := sc_new_fraction.nd
  have hu64 := hr.units
  have hu65 := hu65_of hr
  have hu1 := hu_of hr
  refine ⟨_, (pss_cons (ps_set (i := 2) nd rfl (by first | exact Or.inl rfl | exact Or.inr rfl) (pe_call (ok_common_divisor T) (hr.mono (by decide)) rfl T.common_divisor.g T.common_divisor.F.kp (b_common_divisor T) .nil px0 (pa_cons (pv 0) (pa_cons (pv 1) pa_nil))))
      (pss_cons (ps_if (pt_cmpR op_lt (pv 1) pe_int (nomark _))
      (pss_one (ps_set (i := 2) nd rfl (by first | exact Or.inl rfl | exact Or.inr rfl) (pe_un un_neg (pv 2))))
      pss_nil)
      (pss_one (ps_ret (pe_tup (pa_cons (pe_op op_fdivZ (pv 0) (pv 2)) (pa_cons (pe_op op_fdivZ (pv 1) (pv 2)) pa_nil))))))), fun ds kk xx hl h => ?_⟩
  try dsimp only [cxOf]
  obtain ⟨n, d, b, rfl, h0, hd, hb0, hb1, hk⟩ := h
  walk_at "go"
  refine XE.callP mo_common_divisor (fun _ => rfl) (dD := []) (fun _ => .nil) ?_
  walk_at "go"
  refine ⟨rfl, n, d, rfl, ?_⟩
  have hg : B b (Int.gcd n d : Int) := hd.le (by rw [Int.natAbs_natCast]; exact Nat.le_of_dvd (by omega) (Int.gcd_dvd_natAbs_right n d))
  walk_at "go"
  refine ⟨fun hb => ?_, fun hb => ?_⟩
  · have hn : d < 0 := by simpa using hb
    rw [new_neg hn] at hk
    walk_at "go"
    refine XR.i (hg.neg.divOk (by have := gcd_ne (n := n) h0; omega) hb0 hb1) ?_
    walk_at "go"
    refine XR.i (hg.neg.divOk (by have := gcd_ne (n := n) h0; omega) hb0 hb1) ?_
    walk_at "go"
    exact hk
  · have hn : 0 < d := by
      have : ¬ d < 0 := by simpa using hb
      omega
    rw [new_pos hn] at hk
    walk_at "go"
    refine XR.i (hg.divOk (gcd_ne (n := n) h0) hb0 hb1) ?_
    walk_at "go"
    refine XR.i (hg.divOk (gcd_ne (n := n) h0) hb0 hb1) ?_
    walk_at "go"
    exact hk
theorem ok_is_less (T : Txt K mg) : FnOk P w K mg base (L2.CX P w) 1 T.is_less.a T.is_less.fd ["a", "b"] (spD K 2 (pur (spl_is_less))) := by
  refine fn_okP T.is_less.F sc_is_less rfl fun cdv A outer s H E hr => ?_
  have nd := sc_is_less.nd
  have hu64 := hr.units
  have hu65 := hu65_of hr
  have hu1 := hu_of hr
  refine ⟨_, (pss_one (ps_ret (pe_cmpR op_lt (pe_op op_mulW (pe_ix (ix_K (K := K) rfl) (pv 0) pe_int (fun _ _ => rfl)) (pe_ix (ix_K (K := K) rfl) (pv 1) pe_int (fun _ _ => rfl))) (pe_op op_mulW (pe_ix (ix_K (K := K) rfl) (pv 1) pe_int (fun _ _ => rfl)) (pe_ix (ix_K (K := K) rfl) (pv 0) pe_int (fun _ _ => rfl))) (nomark _)))), fun ds kk xx hl h => ?_⟩
  try dsimp only [cxOf]
  obtain ⟨p, q, b, rfl, h1, h2, h3, h4, hk⟩ := h
  walk_at "go"
  refine XR.i (h1.num.mulOk h2.den h3 h3 (by omega)) ?_
  walk_at "go"
  refine XR.i (h2.num.mulOk h1.den h3 h3 (by omega)) ?_
  walk_at "go"
  rw [← den_lt] at hk
  exact hk
theorem ok_rest_of (T : Txt K mg) : FnOk P w K mg base (L2.CX P w) 3 T.rest_of.a T.rest_of.fd ["a", "b"] (spD K 2 (pur (spl_rest_of))) := by
  refine fn_okP T.rest_of.F sc_rest_of rfl fun cdv A outer s H E hr => ?_
  have nd := sc_rest_of.nd
  have hu64 := hr.units
  have hu65 := hu65_of hr
  have hu1 := hu_of hr
  refine ⟨_, (pss_one (ps_ret (pe_call (ok_new_fraction T) (hr.mono (by decide)) rfl T.new_fraction.g T.new_fraction.F.kp (b_new_fraction T) .nil px0 (pa_cons (pe_op op_sub (pe_op op_mulW (pe_ix (ix_K (K := K) rfl) (pv 0) pe_int (fun _ _ => rfl)) (pe_ix (ix_K (K := K) rfl) (pv 1) pe_int (fun _ _ => rfl))) (pe_op op_mulW (pe_ix (ix_K (K := K) rfl) (pv 1) pe_int (fun _ _ => rfl)) (pe_ix (ix_K (K := K) rfl) (pv 0) pe_int (fun _ _ => rfl)))) (pa_cons (pe_op op_mulW (pe_ix (ix_K (K := K) rfl) (pv 0) pe_int (fun _ _ => rfl)) (pe_ix (ix_K (K := K) rfl) (pv 1) pe_int (fun _ _ => rfl))) pa_nil))))), fun ds kk xx hl h => ?_⟩
  try dsimp only [cxOf]
  obtain ⟨p, q, b, rfl, h1, h2, h3, h4, hk⟩ := h
  walk_at "go"
  refine XE.callP mo_new_fraction (fun _ => rfl) (dD := []) (fun _ => .nil) ?_
  walk_at "go"
  refine XR.i (h1.num.mulOk h2.den h3 h3 (by omega)) ?_
  walk_at "go"
  refine XR.i (h2.num.mulOk h1.den h3 h3 (by omega)) ?_
  walk_at "go"
  refine XR.i (h1.den.mulOk h2.den h3 h3 (by omega)) ?_
  walk_at "go"
  rw [← sub_divInt] at hk
  exact ⟨rfl, _, _, b + b, rfl, Int.mul_ne_zero (den_ne p) (den_ne q), h1.den.mul h2.den, by omega, by omega, hk⟩
theorem ok_share_of (T : Txt K mg) : FnOk P w K mg base (L2.CX P w) 3 T.share_of.a T.share_of.fd ["a", "b"] (spD K 2 (pur (spl_share_of))) := by
  refine fn_okP T.share_of.F sc_share_of rfl fun cdv A outer s H E hr => ?_
  have nd := sc_share_of.nd
  have hu64 := hr.units
  have hu65 := hu65_of hr
  have hu1 := hu_of hr
  refine ⟨_, (pss_one (ps_ret (pe_call (ok_new_fraction T) (hr.mono (by decide)) rfl T.new_fraction.g T.new_fraction.F.kp (b_new_fraction T) .nil px0 (pa_cons (pe_op op_mulW (pe_ix (ix_K (K := K) rfl) (pv 0) pe_int (fun _ _ => rfl)) (pe_ix (ix_K (K := K) rfl) (pv 1) pe_int (fun _ _ => rfl))) (pa_cons (pe_op op_mulW (pe_ix (ix_K (K := K) rfl) (pv 0) pe_int (fun _ _ => rfl)) (pe_ix (ix_K (K := K) rfl) (pv 1) pe_int (fun _ _ => rfl))) pa_nil))))), fun ds kk xx hl h => ?_⟩
  try dsimp only [cxOf]
  obtain ⟨p, q, b, rfl, h1, h2, h3, h4, h5, hk⟩ := h
  walk_at "go"
  refine XE.callP mo_new_fraction (fun _ => rfl) (dD := []) (fun _ => .nil) ?_
  walk_at "go"
  refine XR.i (h1.num.mulOk h2.den h3 h3 (by omega)) ?_
  walk_at "go"
  refine XR.i (h1.den.mulOk h2.num h3 h3 (by omega)) ?_
  walk_at "go"
  rw [← div_divInt] at hk
  exact ⟨rfl, _, _, b + b, rfl, Int.mul_ne_zero (den_ne p) (num_ne h5), h1.den.mul h2.num, by omega, by omega, hk⟩
end
end My

namespace My
open PySem L2 DL PyProof.Rows
local macro_rules | `(tactic| walk_at "go") => `(tactic| repeat (first
  | ((with_reducible refine idE ?_); first
    | ((with_reducible apply XE.var); · exact rfl)
    | (with_reducible first
      | refine XE.op ?_
      | refine XE.int ?_
      | refine XE.str ?_
      | refine XE.ite ?_
      | refine XE.cb ?_
      | refine XE.tup ?_
      | refine XE.bl ?_
      | refine XE.non ?_
      | refine XE.ty ?_
      | refine XE.un ?_
      | refine XE.andV ?_
      | refine XE.orV ?_
      | refine XE.notV ?_
      | refine XE.slice ?_
      | refine XE.chain ?_))
  | ((with_reducible refine idA ?_); with_reducible first
      | refine XA.nil ?_
      | refine XA.cons ?_)
  | ((with_reducible refine idR ?_); first
      | (with_reducible first
        | refine XR.add_int ?_
        | refine XR.eq_int ?_
        | refine XR.ne_int ?_
        | refine XR.i0 ?_
        | refine XR.b0 ?_
        | refine XR.isN ?_
        | refine XR.ntN ?_)
      | refine XR.ix_tup rfl ?_
      | refine XR.ix_lst (by first | exact LsAt.lst | exact LsAt.raw At.hd) rfl ?_)
  | ((with_reducible refine idS ?_); with_reducible first
      | refine XS.seq ?_
      | refine XS.asg ?_
      | refine XS.ret ?_
      | refine XS.ifs ?_
      | refine XS.next ?_
      | refine XS.drop ?_
      | refine XS.par ?_)
  | ((with_reducible refine idT ?_); with_reducible first
      | refine XT.tst ?_
      | refine XT.bool ?_
      | refine XT.and ?_
      | refine XT.or ?_
      | refine XT.not ?_)
  | with_reducible refine ex1 ?_
  | refine pickF rfl ?_
  | refine pickT rfl ?_
  | ((with_reducible refine idO ?_); with_reducible first
      | refine XO.none ?_
      | refine XO.some ?_)
  | ((with_reducible refine idGs ?_); with_reducible first
      | refine XGs.nil ?_
      | refine XGs.cons ?_)
  | ((with_reducible refine idG ?_); with_reducible first
      | refine XG.name (by simp) ?_
      | refine XG.tup rfl ?_)
  | with_reducible refine XC.abs ?_
  | with_reducible refine XU.neg ?_
  | refine ⟨_, _, rfl, ?_⟩
  | refine ⟨_, rfl, ?_⟩
  | refine ⟨show (_ : Nat) + 1 ≤ 16000000 by simp only [List.length_cons, List.length_nil] <;> decide, ?_⟩
  | dsimp only))
local macro_rules | `(tactic| walk_at "sp") => `(tactic| first | refine ⟨[], _, rfl, rfl, ?_⟩ | refine ⟨rfl, ?_⟩)

def spl_is_fraction : PSp := fun ds k _ => ∃ n m : Int, ds = [.tup [.int n, .int m]] ∧ k (.bl (decide (1 ≤ m) && decide (Int.gcd n m = 1)))
theorem mo_is_fraction : MonoP spl_is_fraction := fun _ _ _ _ _ hk _ ⟨n, d, e, q⟩ => ⟨n, d, e, hk _ q⟩
def spl_is_knot : PSp := fun ds k _ => ∃ q : Kn, ds = [dKn q] ∧ k (.bl true)
theorem mo_is_knot : MonoP spl_is_knot := fun _ _ _ _ _ hk _ ⟨n, e, q⟩ => ⟨n, e, hk _ q⟩
def spl_are_knots : PSp := fun ds k _ => ∃ (d : D) (ks : List Kn) (b : Nat), ds = [d] ∧ (d = .lst (ks.map dKn) ∨ d = .tup (ks.map dKn)) ∧ BKs b ks ∧ 0 < b ∧ b ≤ 4000 ∧ ks.length ≤ 1000000 ∧ ∀ r : Bool, (r = true ↔ ks ≠ [] ∧ Asc ks) → k (.bl r)
theorem mo_are_knots : MonoP spl_are_knots := fun _ _ _ _ _ hk _ ⟨d, ks, b, e, h1, h2, h3, h4, h5, q⟩ => ⟨d, ks, b, e, h1, h2, h3, h4, h5, fun r h => hk _ (q r h)⟩
local macro_rules | `(tactic| walk_at "mo") => `(tactic| first | exact mo_is_whole | exact mo_common_divisor | exact mo_is_less | exact mo_rest_of | exact mo_share_of | exact mo_sum_of | exact mo_is_fraction | exact mo_is_knot)
local macro_rules | `(tactic| walk_at "call") => `(tactic| (refine XE.callP (by walk_at "mo") (fun _ => rfl) (dD := []) (fun _ => .nil) ?_))
section
variable {P : Program} {w : World} {K : PySem.W.Frag} {mg : Str → Option Value} {base : Heap}
theorem ok_is_fraction (T : Txt K mg) : FnOk P w K mg base (L2.CX P w) 2 T.is_fraction.a T.is_fraction.fd ["value"] (spD K 1 (pur (spl_is_fraction))) := by
  refine fn_okP T.is_fraction.F sc_is_fraction rfl fun cdv A outer s H E hr => ?_
  have nd := sc_is_fraction.nd
  have hu64 := hr.units
  have hu65 := hu65_of hr
  have hu1 := hu_of hr
  refine ⟨_, (pss_cons (ps_if (PW.pt (pw_or (pt_not (pt_val (pe_callB (cr_isiK (K := K) rfl) (by rfl) T.m_isinstance boot_isinstance (pa_cons (pv 0) (pa_cons (pe_bltn (v := .ty "tuple") (by rfl) T.m_tuple boot_tuple rfl) pa_nil))))) (pw_or (pt_cmpR (op_neK (K := K) rfl hu64) (pe_callB (cr_lenK (K := K) rfl) (by rfl) T.m_len PySem.boot_len (pa_cons (pv 0) pa_nil)) pe_int (nomark _)) (pw_or (pt_not (pt_val (pe_call (ok_is_whole T) (hr.mono (by decide)) rfl T.is_whole.g T.is_whole.F.kp (b_is_whole T) .nil px0 (pa_cons (pe_ix (ix_K (K := K) rfl) (pv 0) pe_int (fun _ _ => rfl)) pa_nil)))) (pw_or1 (pt_not (pt_val (pe_call (ok_is_whole T) (hr.mono (by decide)) rfl T.is_whole.g T.is_whole.F.kp (b_is_whole T) .nil px0 (pa_cons (pe_ix (ix_K (K := K) rfl) (pv 0) pe_int (fun _ _ => rfl)) pa_nil)))))))))
      (pss_one (ps_ret pe_bl))
      pss_nil)
      (pss_one (ps_ret (pe_and (pe_cmpR op_ge (pe_ix (ix_K (K := K) rfl) (pv 0) pe_int (fun _ _ => rfl)) pe_int (nomark _)) (pe_one (pe_cmpR (op_eqK (K := K) rfl hu64) (pe_call (ok_common_divisor T) (hr.mono (by decide)) rfl T.common_divisor.g T.common_divisor.F.kp (b_common_divisor T) .nil px0 (pa_cons (pe_ix (ix_K (K := K) rfl) (pv 0) pe_int (fun _ _ => rfl)) (pa_cons (pe_ix (ix_K (K := K) rfl) (pv 0) pe_int (fun _ _ => rfl)) pa_nil))) pe_int (nomark _))))))), fun ds kk xx hl h => ?_⟩
  try dsimp only [cxOf]
  obtain ⟨n, m, rfl, hk⟩ := h
  walk_at "go"
  refine XC.isT rfl (by simp) ?_
  walk_at "go"
  refine XC.len .tup ?_
  walk_at "go"
  walk_at "call"
  walk_at "go"
  refine ⟨rfl, _, rfl, rfl, ?_⟩
  walk_at "go"
  walk_at "call"
  walk_at "go"
  refine ⟨rfl, _, rfl, rfl, ?_⟩
  walk_at "go"
  refine ⟨fun hb => ?_, fun hb => ?_⟩
  · walk_at "go"
    walk_at "call"
    walk_at "go"
    refine ⟨rfl, _, _, rfl, ?_⟩
    walk_at "go"
    rw [hb, Bool.true_and] at hk
    have e : decide ((Int.gcd n m : Int) = 1) = decide (Int.gcd n m = 1) := by
      rw [decide_eq_decide]
      omega
    rw [e]
    exact hk
  · rw [hb, Bool.false_and] at hk
    exact hk
theorem isFr_dQ (q : Rat) : (decide ((1 : Int) ≤ (q.den : Int)) && decide (Int.gcd q.num q.den = 1)) = true := by
  rw [Bool.and_eq_true, decide_eq_true_eq, decide_eq_true_eq]
  exact ⟨by have := den_pos q; omega, gcd_num_den q⟩
theorem ok_is_knot (T : Txt K mg) : FnOk P w K mg base (L2.CX P w) 3 T.is_knot.a T.is_knot.fd ["value"] (spD K 1 (pur (spl_is_knot))) := by
  refine fn_okP T.is_knot.F sc_is_knot rfl fun cdv A outer s H E hr => ?_
  have nd := sc_is_knot.nd
  have hu64 := hr.units
  have hu65 := hu65_of hr
  have hu1 := hu_of hr
  refine ⟨_, (pss_one (ps_ret (pe_and (pe_callB (cr_isiK (K := K) rfl) (by rfl) T.m_isinstance boot_isinstance (pa_cons (pv 0) (pa_cons (pe_bltn (v := .ty "tuple") (by rfl) T.m_tuple boot_tuple rfl) pa_nil))) (pe_and (pe_cmpR (op_eqK (K := K) rfl hu64) (pe_callB (cr_lenK (K := K) rfl) (by rfl) T.m_len PySem.boot_len (pa_cons (pv 0) pa_nil)) pe_int (nomark _)) (pe_and (pe_call (ok_is_fraction T) (hr.mono (by decide)) rfl T.is_fraction.g T.is_fraction.F.kp (b_is_fraction T) .nil px0 (pa_cons (pe_ix (ix_K (K := K) rfl) (pv 0) pe_int (fun _ _ => rfl)) pa_nil)) (pe_one (pe_call (ok_is_fraction T) (hr.mono (by decide)) rfl T.is_fraction.g T.is_fraction.F.kp (b_is_fraction T) .nil px0 (pa_cons (pe_ix (ix_K (K := K) rfl) (pv 0) pe_int (fun _ _ => rfl)) pa_nil)))))))), fun ds kk xx hl h => ?_⟩
  try dsimp only [cxOf]
  obtain ⟨q, rfl, hk⟩ := h
  walk_at "go"
  refine XC.isT rfl (by simp) ?_
  walk_at "go"
  refine XC.len .tup ?_
  walk_at "go"
  walk_at "call"
  walk_at "go"
  refine ⟨rfl, _, _, rfl, ?_⟩
  rw [isFr_dQ]
  walk_at "go"
  walk_at "call"
  walk_at "go"
  refine ⟨rfl, _, _, rfl, ?_⟩
  rw [isFr_dQ]
  exact hk
theorem isiT_seq : kitAnyB "list" ["list", "tuple"] = some true ∧ kitAnyB "tuple" ["list", "tuple"] = some true := by decide +kernel
theorem asc_cons {ks : List Kn} {i : Nat} (h : ∀ j a b, j < i → ks[j]? = some a → ks[j + 1]? = some b → a.1 < b.1) {a b : Kn} (ha : ks[i]? = some a) (hb : ks[i + 1]? = some b) (hab : a.1 < b.1) : ∀ j a b, j < i + 1 → ks[j]? = some a → ks[j + 1]? = some b → a.1 < b.1 := fun j x y hj hx hy => by
  by_cases e : j = i
  · subst e
    rw [ha] at hx
    rw [hb] at hy
    cases hx
    cases hy
    exact hab
  · exact h j x y (by omega) hx hy
theorem ok_are_knots (T : Txt K mg) : FnOk P w K mg base (L2.CX P w) 4 T.are_knots.a T.are_knots.fd ["value"] (spD K 1 (pur (spl_are_knots))) := by
  refine fn_okP T.are_knots.F sc_are_knots rfl fun cdv A outer s H E hr => ?_
  have nd := sc_are_knots.nd
  have hu64 := hr.units
  have hu65 := hu65_of hr
  have hu1 := hu_of hr
  refine ⟨_, (pss_cons (ps_if (PW.pt (pw_or (pt_not (pt_val (pe_callB (cr_isiTK (K := K) rfl) (by rfl) T.m_isinstance boot_isinstance (pa_cons (pv 0) (pa_cons (pe_tup (pa_cons (pe_bltn (v := .ty "list") (by rfl) T.m_list boot_list rfl) (pa_cons (pe_bltn (v := .ty "tuple") (by rfl) T.m_tuple boot_tuple rfl) pa_nil))) pa_nil))))) (pw_or1 (pt_cmpR (op_eqK (K := K) rfl hu64) (pe_callB (cr_lenK (K := K) rfl) (by rfl) T.m_len PySem.boot_len (pa_cons (pv 0) pa_nil)) pe_int (nomark _)))))
      (pss_one (ps_ret pe_bl))
      pss_nil)
      (pss_cons (ps_for (passes_of rfl) rfl (pi_K (K := K) rfl (pv 0)) (pg_name (i := 1) nd rfl (by first | exact Or.inl rfl | exact Or.inr rfl))
      (pss_one (ps_if (pt_not (pt_val (pe_call (ok_is_knot T) (hr.mono (by decide)) rfl T.is_knot.g T.is_knot.F.kp (b_is_knot T) .nil px0 (pa_cons (pv 1) pa_nil))))
      (pss_one (ps_ret pe_bl))
      pss_nil)))
      (pss_cons (ps_for (passes_of rfl) rfl (pi_range2 rfl T.m_range (pa_cons pe_int (pa_cons (pe_callB (cr_lenK (K := K) rfl) (by rfl) T.m_len PySem.boot_len (pa_cons (pv 0) pa_nil)) pa_nil))) (pg_name (i := 2) nd rfl (by first | exact Or.inl rfl | exact Or.inr rfl))
      (pss_one (ps_if (pt_not (pt_val (pe_call (ok_is_less T) (hr.mono (by decide)) rfl T.is_less.g T.is_less.F.kp (b_is_less T) .nil px0 (pa_cons (pe_ix (ix_K (K := K) rfl) (pe_ix (ix_K (K := K) rfl) (pv 0) (pe_op op_sub (pv 2) pe_int) (fun _ _ => rfl)) pe_int (fun _ _ => rfl)) (pa_cons (pe_ix (ix_K (K := K) rfl) (pe_ix (ix_K (K := K) rfl) (pv 0) (pv 2) (fun _ _ => rfl)) pe_int (fun _ _ => rfl)) pa_nil)))))
      (pss_one (ps_ret pe_bl))
      pss_nil)))
      (pss_one (ps_ret pe_bl))))), fun ds kk xx hl h => ?_⟩
  try dsimp only [cxOf]
  obtain ⟨d, ks, b, rfl, hd, hB, hb0, hb1, hlen, hk⟩ := h
  have sq : ∀ M, SqAt M d (ks.map dKn) := fun M => by
    rcases hd with rfl | rfl
    · exact .lst
    · exact .tup
  have wk : WkAt d (ks.map dKn) := by
    rcases hd with rfl | rfl
    · exact .lst
    · exact .tup
  have ix : ∀ {M : Mem} {i : Int} {k : D → Mem → Prop} {j : Nat} {a : Kn}, i = (j : Int) → ks[j]? = some a → k (dKn a) M → XR K (rIx K) d (.int i) M k := fun {M i k j a} e ha q => by
    have h2 := at_nat e (get_map (e := dKn) ha)
    rcases hd with rfl | rfl
    · exact XR.ix_lst .lst h2 q
    · exact XR.ix_tup h2 q
  refine XS.seq (XS.ifs (XT.or (XT.not (XT.bool (XE.isiT ?_)))))
  walk_at "go"
  have hty : ∃ a, d.tyN = some a ∧ kitAnyB a ["list", "tuple"] = some true := by
    rcases hd with rfl | rfl
    · exact ⟨_, rfl, isiT_seq.1⟩
    · exact ⟨_, rfl, isiT_seq.2⟩
  obtain ⟨a, ha1, ha2⟩ := hty
  refine ⟨a, true, ["list", "tuple"], rfl, by decide, ha1, ha2, ?_⟩
  walk_at "go"
  refine XC.len (sq _) ?_
  walk_at "go"
  refine ⟨fun hz => ?_, fun hz => ?_⟩
  · walk_at "go"
    refine hk false ⟨fun z => (nomatch z), fun z => ?_⟩
    exact absurd (List.length_eq_zero_iff.mp (by simpa using hz)) z.1
  · have hne : ks ≠ [] := fun z => by
      subst z
      simp at hz
    walk_at "go"
    refine XS.for [1] (XI.U ?_)
    walk_at "go"
    refine ⟨ks.map dKn, wk, fun i ds M => (∃ y, ds = [some d, y, none]) ∧ M = [], ⟨⟨_, rfl⟩, rfl⟩, ?_, ?_⟩
    · rintro i x _ M hx ⟨⟨y, rfl⟩, rfl⟩
      obtain ⟨kn, hkn, rfl⟩ := map_get hx
      walk_at "go"
      walk_at "call"
      walk_at "go"
      refine ⟨rfl, kn, rfl, ?_⟩
      walk_at "go"
      exact ⟨⟨_, rfl⟩, rfl⟩
    · rintro _ M ⟨⟨y, rfl⟩, rfl⟩
      walk_at "go"
      refine XS.for [2] (XI.rng2 ?_)
      walk_at "go"
      refine XC.len (sq _) ?_
      walk_at "go"
      rw [List.length_map]
      refine ⟨⟨by decide, by decide, by omega, by omega⟩, fun i ds M => (∃ z, ds = [some d, y, z]) ∧ M = [] ∧ ∀ j a b, j < i → ks[j]? = some a → ks[j + 1]? = some b → a.1 < b.1, ⟨⟨_, rfl⟩, rfl, fun j a b hj => absurd hj (Nat.not_lt_zero _)⟩, ?_, ?_⟩
      · rintro i x _ M hx ⟨⟨z, rfl⟩, rfl, hI⟩
        rw [rngD_get] at hx
        split at hx
        · rename_i hi
          cases hx
          obtain ⟨ka, hka⟩ : ∃ ka, ks[i]? = some ka := ⟨_, List.getElem?_eq_getElem (show i < ks.length by omega)⟩
          obtain ⟨kb, hkb⟩ : ∃ kb, ks[i + 1]? = some kb := ⟨_, List.getElem?_eq_getElem (show i + 1 < ks.length by omega)⟩
          walk_at "go"
          walk_at "call"
          walk_at "go"
          refine ix (j := i) (by omega) hka ?_
          walk_at "go"
          refine ix (j := i + 1) (by omega) hkb ?_
          walk_at "go"
          refine ⟨rfl, ka.1, kb.1, b, rfl, (hB.get hka).1, (hB.get hkb).1, hb0, hb1, ?_⟩
          walk_at "go"
          refine ⟨fun hlt => ?_, fun hlt => ?_⟩
          · walk_at "go"
            refine hk false ⟨fun z => (nomatch z), fun z => ?_⟩
            have := z.2 i ka kb hka hkb
            simp [this] at hlt
          · walk_at "go"
            refine ⟨⟨_, rfl⟩, rfl, asc_cons hI hka hkb (by simpa using hlt)⟩
        · cases hx
      · rintro _ M ⟨⟨z, rfl⟩, rfl, hI⟩
        walk_at "go"
        rw [rngD_len] at hI
        refine hk true ⟨fun _ => ⟨hne, fun i a b ha hb => hI i a b ?_ ha hb⟩, fun _ => rfl⟩
        have := (List.getElem?_eq_some_iff.mp hb).1
        omega
end
end My

namespace My
open PySem L2 DL PyProof.Rows
local macro_rules | `(tactic| walk_at "go") => `(tactic| repeat (first
  | ((with_reducible refine idE ?_); first
    | ((with_reducible apply XE.var); · exact rfl)
    | (with_reducible first
      | refine XE.op ?_
      | refine XE.int ?_
      | refine XE.str ?_
      | refine XE.ite ?_
      | refine XE.cb ?_
      | refine XE.tup ?_
      | refine XE.bl ?_
      | refine XE.non ?_
      | refine XE.ty ?_
      | refine XE.un ?_
      | refine XE.andV ?_
      | refine XE.orV ?_
      | refine XE.notV ?_
      | refine XE.slice ?_
      | refine XE.chain ?_))
  | ((with_reducible refine idA ?_); with_reducible first
      | refine XA.nil ?_
      | refine XA.cons ?_)
  | ((with_reducible refine idR ?_); first
      | (with_reducible first
        | refine XR.add_int ?_
        | refine XR.eq_int ?_
        | refine XR.ne_int ?_
        | refine XR.i0 ?_
        | refine XR.b0 ?_
        | refine XR.isN ?_
        | refine XR.ntN ?_)
      | refine XR.ix_tup rfl ?_
      | refine XR.ix_lst (by first | exact LsAt.lst | exact LsAt.raw At.hd) rfl ?_)
  | ((with_reducible refine idS ?_); with_reducible first
      | refine XS.seq ?_
      | refine XS.asg ?_
      | refine XS.ret ?_
      | refine XS.ifs ?_
      | refine XS.next ?_
      | refine XS.drop ?_
      | refine XS.par ?_)
  | ((with_reducible refine idT ?_); with_reducible first
      | refine XT.tst ?_
      | refine XT.bool ?_
      | refine XT.and ?_
      | refine XT.or ?_
      | refine XT.not ?_)
  | with_reducible refine ex1 ?_
  | refine pickF rfl ?_
  | refine pickT rfl ?_
  | ((with_reducible refine idO ?_); with_reducible first
      | refine XO.none ?_
      | refine XO.some ?_)
  | ((with_reducible refine idGs ?_); with_reducible first
      | refine XGs.nil ?_
      | refine XGs.cons ?_)
  | ((with_reducible refine idG ?_); with_reducible first
      | refine XG.name (by simp) ?_
      | refine XG.tup rfl ?_)
  | with_reducible refine XC.abs ?_
  | with_reducible refine XU.neg ?_
  | refine ⟨_, _, rfl, ?_⟩
  | refine ⟨_, rfl, ?_⟩
  | refine ⟨show (_ : Nat) + 1 ≤ 16000000 by simp only [List.length_cons, List.length_nil] <;> decide, ?_⟩
  | dsimp only))
local macro_rules | `(tactic| walk_at "sp") => `(tactic| first | refine ⟨[], _, rfl, rfl, ?_⟩ | refine ⟨rfl, ?_⟩)

def spl_slopes_of : PSp := fun ds k _ => ∃ (ks : List Kn) (b : Nat), ds = [.tup (ks.map dKn)] ∧ BKs b ks ∧ 0 < b ∧ b ≤ 1000 ∧ ks.length ≤ 1000000 ∧ Asc ks ∧ k (.lst ((slopes ks).map dQ))
theorem mo_slopes_of : MonoP spl_slopes_of := fun _ _ _ _ _ hk _ ⟨ks, b, e, h1, h2, h3, h4, h5, q⟩ => ⟨ks, b, e, h1, h2, h3, h4, h5, hk _ q⟩
def spl_turns_of : PSp := fun ds k _ => ∃ (ks : List Kn) (b : Nat), ds = [.tup (ks.map dKn)] ∧ BKs b ks ∧ 0 < b ∧ b ≤ 1000 ∧ ks.length ≤ 1000000 ∧ Asc ks ∧ ks ≠ [] ∧ k (.tup ((turns ks).map dKn))
theorem mo_turns_of : MonoP spl_turns_of := fun _ _ _ _ _ hk _ ⟨ks, b, e, h1, h2, h3, h4, h5, h6, q⟩ => ⟨ks, b, e, h1, h2, h3, h4, h5, h6, hk _ q⟩
local macro_rules | `(tactic| walk_at "mo") => `(tactic| first | exact mo_is_whole | exact mo_common_divisor | exact mo_is_less | exact mo_rest_of | exact mo_share_of | exact mo_sum_of | exact mo_is_fraction | exact mo_is_knot | exact mo_are_knots | exact mo_slopes_of | exact mo_turns_of)
local macro_rules | `(tactic| walk_at "call") => `(tactic| (refine XE.callP (by walk_at "mo") (fun _ => rfl) (dD := []) (fun _ => .nil) ?_))
theorem take_get {α : Type} {xs : List α} {i : Nat} {x : α} (h : xs[i]? = some x) : xs.take (i + 1) = xs.take i ++ [x] := by
  rw [List.take_add_one, h]
  rfl
section
variable {P : Program} {w : World} {K : PySem.W.Frag} {mg : Str → Option Value} {base : Heap}
theorem ok_slopes_of (T : Txt K mg) : FnOk P w K mg base (L2.CX P w) 4 T.slopes_of.a T.slopes_of.fd ["points"] (spD K 1 (pur (spl_slopes_of))) := by
  refine fn_okP T.slopes_of.F sc_slopes_of rfl fun cdv A outer s H E hr => ?_
  have nd := sc_slopes_of.nd
  have hu64 := hr.units
  have hu65 := hu65_of hr
  have hu1 := hu_of hr
  refine ⟨_, (pss_cons (ps_set (i := 1) nd rfl (by first | exact Or.inl rfl | exact Or.inr rfl) (pe_lst pa_nil))
      (pss_cons (ps_for (passes_of rfl) rfl (pi_zipK (K := K) rfl (by rfl) T.m_zip (pa_cons (pv 0) (pa_cons (pe_slice (sl_K (K := K) rfl) (pv 0) (po_some pe_int) po_none) pa_nil))) (pg_tupK (K := K) (n := 2) rfl rfl (pgs_cons (pg_name (i := 2) nd rfl (by first | exact Or.inl rfl | exact Or.inr rfl)) (pgs_cons (pg_name (i := 3) nd rfl (by first | exact Or.inl rfl | exact Or.inr rfl)) pgs_nil)))
      (pss_one (ps_expr (pe_bmK (K := K) rfl PySem.F.plainAttrs_list PySem.F.slot_list_append PySem.F.type_list_append mt_append (pv 1) (pa_cons (pe_call (ok_share_of T) (hr.mono (by decide)) rfl T.share_of.g T.share_of.F.kp (b_share_of T) .nil px0 (pa_cons (pe_call (ok_rest_of T) (hr.mono (by decide)) rfl T.rest_of.g T.rest_of.F.kp (b_rest_of T) .nil px0 (pa_cons (pe_ix (ix_K (K := K) rfl) (pv 3) pe_int (fun _ _ => rfl)) (pa_cons (pe_ix (ix_K (K := K) rfl) (pv 2) pe_int (fun _ _ => rfl)) pa_nil))) (pa_cons (pe_call (ok_rest_of T) (hr.mono (by decide)) rfl T.rest_of.g T.rest_of.F.kp (b_rest_of T) .nil px0 (pa_cons (pe_ix (ix_K (K := K) rfl) (pv 3) pe_int (fun _ _ => rfl)) (pa_cons (pe_ix (ix_K (K := K) rfl) (pv 2) pe_int (fun _ _ => rfl)) pa_nil))) pa_nil))) pa_nil)))))
      (pss_one (ps_ret (pe_op (op_addK (K := K) rfl) (pv 1) (pe_lst (pa_cons (pe_glob (v := .ref T.a_ZERO) rfl T.g_ZERO rfl) pa_nil))))))), fun ds kk xx hl h => ?_⟩
  try dsimp only [cxOf]
  obtain ⟨ks, b, rfl, hB, hb0, hb1, hlen, hA, hk⟩ := h
  refine XS.seq (XS.asg (XE.lstM ?_))
  walk_at "go"
  refine ⟨by decide, fun p hp => ?_⟩
  walk_at "go"
  refine XS.for [2, 3] (XI.zip ?_)
  walk_at "go"
  refine XSl.tup ?_
  walk_at "go"
  rw [cutD_tail]
  refine ⟨_, _, _, _, rfl, .inr ⟨rfl, rfl⟩, fun i ds M => (∃ y z, ds = [some (.tup (ks.map dKn)), some (.raw p), y, z]) ∧ M = [(p, .lst (((slopesI ks).take i).map dQ))], ⟨⟨_, _, rfl⟩, rfl⟩, ?_, ?_⟩
  · rintro i x _ M hx ⟨⟨y, z, rfl⟩, rfl⟩
    obtain ⟨a, c, ha, hc, rfl⟩ := zipD_get hx
    rw [List.getElem?_drop, Nat.add_comm] at hc
    obtain ⟨ka, hka, rfl⟩ := map_get ha
    obtain ⟨kc, hkc, rfl⟩ := map_get hc
    have hlt : ka.1 < kc.1 := hA i ka kc hka hkc
    walk_at "go"
    refine XE.bm ?_
    walk_at "go"
    refine ⟨ty_lst (.raw .hd), ?_⟩
    walk_at "go"
    walk_at "call"
    walk_at "go"
    walk_at "call"
    walk_at "go"
    refine ⟨rfl, kc.2, ka.2, b, rfl, (hB.get hkc).2, (hB.get hka).2, hb0, by omega, ?_⟩
    walk_at "go"
    walk_at "call"
    walk_at "go"
    refine ⟨rfl, kc.1, ka.1, b, rfl, (hB.get hkc).1, (hB.get hka).1, hb0, by omega, ?_⟩
    walk_at "go"
    refine ⟨rfl, _, _, b + b + 1, rfl, (hB.get hkc).2.sub (hB.get hka).2, (hB.get hkc).1.sub (hB.get hka).1, by omega, by omega, sub_ne hlt, ?_⟩
    walk_at "go"
    refine XM.append .hd ?_ ?_
    · rw [List.length_map, List.length_take, slopesI_len]
      omega
    · refine ⟨⟨_, _, rfl⟩, ?_⟩
      rw [take_get (slopesI_get ks i ka kc hka hkc), List.map_append]
      rfl
  · rintro _ M ⟨⟨y, z, rfl⟩, rfl⟩
    have e : (slopesI ks).take (zipD (ks.map dKn) ((ks.map dKn).drop 1)).length = slopesI ks := List.take_of_length_le (by
      unfold zipD
      rw [slopesI_len, List.length_map, List.length_zip, List.length_drop, List.length_map]
      omega)
    rw [e]
    walk_at "go"
    refine XE.lstF ?_
    walk_at "go"
    refine XE.c (d := dQ 0) T.t_ZERO ?_
    walk_at "go"
    refine XR.add_lst (.raw .hd) .lst ?_ ?_
    · rw [List.length_map, slopesI_len]
      show _ + 1 ≤ _
      omega
    · rw [show slopes ks = slopesI ks ++ [0] from rfl, List.map_append] at hk
      exact hk
def turnF (ks : List Kn) : D → Option D
  | .int z => (turnsAt ks (z - 1).toNat).map dKn
  | _ => none
theorem turnF_at (ks : List Kn) (i : Nat) : turnF ks (.int (1 + (i : Nat))) = (turnsAt ks i).map dKn := by
  show (turnsAt ks ((1 : Int) + (i : Nat) - 1).toNat).map dKn = _
  rw [show ((1 : Int) + (i : Nat) - 1).toNat = i by omega]
theorem turnF_all (ks : List Kn) (n : Nat) : (rngD 1 n).filterMap (turnF ks) = ((List.range n).filterMap (turnsAt ks)).map dKn := by
  unfold rngD
  rw [List.filterMap_map, List.map_filterMap]
  congr 1
  funext i
  exact turnF_at ks i
theorem ok_turns_of (T : Txt K mg) : FnOk P w K mg base (L2.CX P w) 5 T.turns_of.a T.turns_of.fd ["points"] (spD K 1 (pur (spl_turns_of))) := by
  refine fn_okP T.turns_of.F sc_turns_of rfl fun cdv A outer s H E hr => ?_
  have nd := sc_turns_of.nd
  have hu64 := hr.units
  have hu65 := hu65_of hr
  have hu1 := hu_of hr
  refine ⟨_, (pss_cons (ps_set (i := 1) nd rfl (by first | exact Or.inl rfl | exact Or.inr rfl) (pe_call (ok_slopes_of T) (hr.mono (by decide)) rfl T.slopes_of.g T.slopes_of.F.kp (b_slopes_of T) .nil px0 (pa_cons (pv 0) pa_nil)))
      (pss_one (ps_ret (pe_op (op_addK (K := K) rfl) (pe_slice (sl_K (K := K) rfl) (pv 0) po_none (po_some pe_int)) (pe_callTy (cr_tupK (K := K) rfl) (by rfl) T.m_tuple boot_tuple (pa_cons (pe_lc (own := [("at", 2)]) (g := gName 2) (by rfl) nd (pi_range2 rfl T.m_range (pa_cons pe_int (pa_cons (pe_callB (cr_lenK (K := K) rfl) (by rfl) T.m_len PySem.boot_len (pa_cons (pv 0) pa_nil)) pa_nil))) (blkOk_by (N := N_turns_of) (sc := defScope s_turns_of) (by decide +kernel)) (fun _ _ _ _ _ => (pg_name (i := 2) nd rfl (by first | exact Or.inl rfl | exact Or.inr rfl))) (fun _ _ _ _ _ => (pts_one (pt_cmpR (op_neK (K := K) rfl hu64) (pe_ix (ix_K (K := K) rfl) (pv 1) (pv 2) (fun _ _ => rfl)) (pe_ix (ix_K (K := K) rfl) (pv 1) (pe_op op_sub (pv 2) pe_int) (fun _ _ => rfl)) (nomark _)))) (fun _ _ _ _ _ => (pe_ix (ix_K (K := K) rfl) (pv 0) (pv 2) (fun _ _ => rfl)))) pa_nil)))))), fun ds kk xx hl h => ?_⟩
  try dsimp only [cxOf]
  obtain ⟨ks, b, rfl, hB, hb0, hb1, hlen, hA, hne, hk⟩ := h
  walk_at "go"
  walk_at "call"
  walk_at "go"
  refine ⟨rfl, ks, b, rfl, hB, hb0, hb1, hlen, hA, ?_⟩
  have hsl := slopes_len hne
  walk_at "go"
  refine XSl.tup ?_
  rw [cutD_head]
  walk_at "go"
  refine XE.lc (turnF ks) (XI.rng2 ?_)
  walk_at "go"
  refine XC.len .tup ?_
  walk_at "go"
  rw [List.length_map]
  refine ⟨⟨by decide, by decide, by omega, by omega⟩, by rw [rngD_len]; omega, fun x hx => ?_, ?_⟩
  · obtain ⟨i, hi⟩ := List.getElem?_of_mem hx
    rw [rngD_get] at hi
    split at hi
    · rename_i hlt
      cases hi
      obtain ⟨ka, hka⟩ : ∃ ka, ks[i + 1]? = some ka := ⟨_, List.getElem?_eq_getElem (show i + 1 < ks.length by omega)⟩
      obtain ⟨qa, hqa⟩ : ∃ qa, (slopes ks)[i + 1]? = some qa := ⟨_, List.getElem?_eq_getElem (show i + 1 < (slopes ks).length by omega)⟩
      obtain ⟨qb, hqb⟩ : ∃ qb, (slopes ks)[i]? = some qb := ⟨_, List.getElem?_eq_getElem (show i < (slopes ks).length by omega)⟩
      have hT : turnsAt ks i = if qa = qb then none else some ka := by
        unfold turnsAt
        rw [hqa, hqb, hka]
        by_cases e : qa = qb
        · rw [if_pos e, if_pos (by rw [e])]
        · rw [if_neg e, if_neg (by intro z; exact e (Option.some.inj z))]
      rw [turnF_at, hT]
      walk_at "go"
      refine XR.ix_lst .lst (at_nat (j := i + 1) (by omega) (get_map hqa)) ?_
      walk_at "go"
      refine XR.ix_lst .lst (at_nat (j := i) (by omega) (get_map hqb)) ?_
      refine XR.ne_dQ ?_
      walk_at "go"
      refine ⟨fun hb => ?_, fun hb => ?_⟩
      · have hne : ¬ qa = qb := by simpa using hb
        walk_at "go"
        refine XR.ix_tup (at_nat (j := i + 1) (by omega) (get_map hka)) ?_
        rw [if_neg hne]
        exact ⟨rfl, rfl⟩
      · have he : qa = qb := by simpa using hb
        rw [if_pos he]
        exact ⟨rfl, rfl⟩
    · cases hi
  · rw [turnF_all]
    refine XA.nil ?_
    refine XC.tup .lst ?_
    refine XR.add_tup ?_ ?_
    · have h1 : ((List.range (ks.length - 1)).filterMap (turnsAt ks)).length ≤ ks.length - 1 := by
        refine Nat.le_trans (List.length_filterMap_le _ _) ?_
        rw [List.length_range]
        exact Nat.le_refl _
      rw [List.length_take, List.length_map, List.length_map]
      have e : ((ks.length : Int) - 1).toNat = ks.length - 1 := by omega
      rw [e]
      omega
    · have e : ((ks.length : Int) - 1).toNat = ks.length - 1 := by omega
      rw [e, ← List.map_take, ← List.map_append]
      exact hk
end
end My

namespace My
open PySem L2 DL PyProof.Rows
local macro_rules | `(tactic| walk_at "go") => `(tactic| repeat (first
  | ((with_reducible refine idE ?_); first
    | ((with_reducible apply XE.var); · exact rfl)
    | (with_reducible first
      | refine XE.op ?_
      | refine XE.int ?_
      | refine XE.str ?_
      | refine XE.ite ?_
      | refine XE.cb ?_
      | refine XE.tup ?_
      | refine XE.bl ?_
      | refine XE.non ?_
      | refine XE.ty ?_
      | refine XE.un ?_
      | refine XE.andV ?_
      | refine XE.orV ?_
      | refine XE.notV ?_
      | refine XE.slice ?_
      | refine XE.chain ?_))
  | ((with_reducible refine idA ?_); with_reducible first
      | refine XA.nil ?_
      | refine XA.cons ?_)
  | ((with_reducible refine idR ?_); first
      | (with_reducible first
        | refine XR.add_int ?_
        | refine XR.eq_int ?_
        | refine XR.ne_int ?_
        | refine XR.i0 ?_
        | refine XR.b0 ?_
        | refine XR.isN ?_
        | refine XR.ntN ?_)
      | refine XR.ix_tup rfl ?_
      | refine XR.ix_lst (by first | exact LsAt.lst | exact LsAt.raw At.hd) rfl ?_)
  | ((with_reducible refine idS ?_); with_reducible first
      | refine XS.seq ?_
      | refine XS.asg ?_
      | refine XS.ret ?_
      | refine XS.ifs ?_
      | refine XS.next ?_
      | refine XS.drop ?_
      | refine XS.par ?_)
  | ((with_reducible refine idT ?_); with_reducible first
      | refine XT.tst ?_
      | refine XT.bool ?_
      | refine XT.and ?_
      | refine XT.or ?_
      | refine XT.not ?_)
  | with_reducible refine ex1 ?_
  | refine pickF rfl ?_
  | refine pickT rfl ?_
  | ((with_reducible refine idO ?_); with_reducible first
      | refine XO.none ?_
      | refine XO.some ?_)
  | ((with_reducible refine idGs ?_); with_reducible first
      | refine XGs.nil ?_
      | refine XGs.cons ?_)
  | ((with_reducible refine idG ?_); with_reducible first
      | refine XG.name (by simp) ?_
      | refine XG.tup rfl ?_)
  | with_reducible refine XC.abs ?_
  | with_reducible refine XU.neg ?_
  | refine ⟨_, _, rfl, ?_⟩
  | refine ⟨_, rfl, ?_⟩
  | refine ⟨show (_ : Nat) + 1 ≤ 16000000 by simp only [List.length_cons, List.length_nil] <;> decide, ?_⟩
  | dsimp only))
local macro_rules | `(tactic| walk_at "sp") => `(tactic| first | refine ⟨[], _, rfl, rfl, ?_⟩ | refine ⟨rfl, ?_⟩)

def tabF (ks : List Kn) : List (Str × D) := [("points", .tup (ks.map dKn)), ("turns", .tup ((turns ks).map dKn))]
theorem dTab_eq (C : Addr) (ks : List Kn) : dTab C ks = .ins C (tabF ks) := rfl
def Good (ks : List Kn) : Prop := ks ≠ [] ∧ Asc ks ∧ ks.length ≤ 40
def sp_Timetable_init (C X : Addr) : DSp := fun ds M k x => ∃ (p : Addr) (v : D) (ks : List Kn) (b : Nat), ds = [.raw p, v] ∧ M = [(p, .ins C [])] ∧ (v = .lst (ks.map dKn) ∨ v = .tup (ks.map dKn)) ∧ BKs b ks ∧ 0 < b ∧ b ≤ 1000 ∧ ks.length ≤ 1000000 ∧ (Good ks → k .non [(p, .ins C (tabF ks))]) ∧ (¬ Good ks → x (.ref X) [] [(p, .ins C [])])
theorem mo_Timetable_init (C X : Addr) : MonoD (sp_Timetable_init C X) := fun _ _ _ _ _ _ hk hx ⟨p, v, ks, b, e, e2, h1, h2, h3, h4, h5, q, q2⟩ => ⟨p, v, ks, b, e, e2, h1, h2, h3, h4, h5, fun g => hk _ _ (q g), fun g => hx _ _ _ (q2 g)⟩
def spl_Timetable_knots (C : Addr) : PSp := fun ds k _ => ∃ (ks : List Kn), ds = [dTab C ks] ∧ k (.lst (ks.map dKn))
theorem mo_Timetable_knots (C : Addr) : MonoP (spl_Timetable_knots C) := fun _ _ _ _ _ hk _ ⟨ks, e, q⟩ => ⟨ks, e, hk _ q⟩
local macro_rules | `(tactic| walk_at "mo") => `(tactic| first | exact mo_is_whole | exact mo_common_divisor | exact mo_is_less | exact mo_rest_of | exact mo_share_of | exact mo_sum_of | exact mo_is_fraction | exact mo_is_knot | exact mo_are_knots | exact mo_slopes_of | exact mo_turns_of)
local macro_rules | `(tactic| walk_at "call") => `(tactic| (refine XE.callP (by walk_at "mo") (fun _ => rfl) (dD := []) (fun _ => .nil) ?_))
theorem put_points (y : D) : putD "points" y [] = ([("points", y)] : List (Str × D)) := rfl
theorem put_turns (y z : D) : putD "turns" z ([("points", y)] : List (Str × D)) = ([("points", y), ("turns", z)] : List (Str × D)) := by
  unfold putD
  rw [if_neg (by decide)]
  rfl
section
variable {P : Program} {w : World} {K : PySem.W.Frag} {mg : Str → Option Value} {base : Heap}
theorem ok_Timetable_knots (T : Txt K mg) : FnOk P w K mg base (L2.CX P w) 1 T.Timetable_knots.a T.Timetable_knots.fd ["self"] (spD K 1 (pur (spl_Timetable_knots T.C_Timetable))) := by
  refine fn_okP T.Timetable_knots.F sc_Timetable_knots rfl fun cdv A outer s H E hr => ?_
  have nd := sc_Timetable_knots.nd
  have hu64 := hr.units
  have hu65 := hu65_of hr
  have hu1 := hu_of hr
  refine ⟨_, (pss_one (ps_ret (pe_callTy (cr_lstK (K := K) rfl) (by rfl) T.m_list boot_list (pa_cons (pe_fldK (K := K) rfl (pv 0) rfl) pa_nil)))), fun ds kk xx hl h => ?_⟩
  try dsimp only [cxOf]
  obtain ⟨ks, rfl, hk⟩ := h
  walk_at "go"
  refine XE.fld ?_
  walk_at "go"
  refine ⟨_, _, _, .ins, T.cl_Timetable, T.na_Timetable_points, rfl, ?_⟩
  walk_at "go"
  refine XC.lst .tup ?_
  exact hk
theorem ok_Timetable_init (T : Txt K mg) : FnOk P w K mg base (L2.CX P w) 6 T.Timetable_init.a T.Timetable_init.fd ["self", "knots"] (spD K 2 (sp_Timetable_init T.C_Timetable T.C_NoTable)) := by
  refine fn_okD T.Timetable_init.F sc_Timetable_init rfl fun cdv A outer s H E hr => ?_
  have nd := sc_Timetable_init.nd
  have hu64 := hr.units
  have hu65 := hu65_of hr
  have hu1 := hu_of hr
  refine ⟨_, (pss_cons (ps_if (PW.pt (pw_or (pt_not (pt_val (pe_call (ok_are_knots T) (hr.mono (by decide)) rfl T.are_knots.g T.are_knots.F.kp (b_are_knots T) .nil px0 (pa_cons (pv 1) pa_nil)))) (pw_or1 (pt_cmpR op_gt (pe_callB (cr_lenK (K := K) rfl) (by rfl) T.m_len PySem.boot_len (pa_cons (pv 1) pa_nil)) (pe_conK (K := K) rfl (pv 0) rfl) (nomark _)))))
      (pss_one (ps_raise rfl (takes_of rfl rfl rfl rfl) (pmk_own PySem.F.excBase_ValueError T.x_NoTable T.g_NoTable T.k_NoTable (raises_own T.be_NoTable T.te_NoTable) rfl)))
      pss_nil)
      (pss_cons (ps_fldK (K := K) rfl (pv 0) (pe_callTy (cr_tupK (K := K) rfl) (by rfl) T.m_tuple boot_tuple (pa_cons (pv 1) pa_nil)) rfl)
      (pss_one (ps_fldK (K := K) rfl (pv 0) (pe_call (ok_turns_of T) (hr.mono (by decide)) rfl T.turns_of.g T.turns_of.F.kp (b_turns_of T) .nil px0 (pa_cons (pe_fldK (K := K) rfl (pv 0) rfl) pa_nil)) rfl)))), fun ds M kk xx hl h => ?_⟩
  try dsimp only [cxOf]
  obtain ⟨p, v, ks, b, rfl, rfl, hv, hB, hb0, hb1, hl, hk, hx⟩ := h
  have sq : ∀ M, SqAt M v (ks.map dKn) := fun M => by
    rcases hv with rfl | rfl
    · exact .lst
    · exact .tup
  walk_at "go"
  walk_at "call"
  walk_at "go"
  refine ⟨rfl, v, ks, b, rfl, hv, hB, hb0, by omega, hl, fun r hr => ?_⟩
  cases r with
  | false =>
    walk_at "go"
    refine XS.raiseO (fun _ => rfl) (hx fun g => ?_)
    have := hr.mpr ⟨g.1, g.2.1⟩
    cases this
  | true =>
    have hg := hr.mp rfl
    walk_at "go"
    refine XC.len (sq _) ?_
    walk_at "go"
    refine XE.con ?_
    walk_at "go"
    obtain ⟨u, hu⟩ := T.con_Timetable_MOST
    refine ⟨_, _, _, u, .int 40, .raw .hd, T.cl_Timetable, hu, rfl, fun _ => .int 40, ?_⟩
    walk_at "go"
    rw [List.length_map]
    refine ⟨fun hb => ?_, fun hb => ?_⟩
    · have hb := of_decide_eq_true hb
      walk_at "go"
      exact XS.raiseO (fun _ => rfl) (hx fun g => by have := g.2.2; omega)
    have hb := of_decide_eq_false hb
    have hk := hk ⟨hg.1, hg.2, by omega⟩
    walk_at "go"
    refine XS.fld ?_
    walk_at "go"
    refine XC.tup (sq _) ?_
    walk_at "go"
    refine ⟨p, _, _, _, rfl, .hd, T.cl_Timetable, T.na_Timetable_points, by decide, ?_⟩
    rw [put_points]
    walk_at "go"
    refine XS.fld ?_
    walk_at "call"
    walk_at "go"
    refine XE.fld ?_
    walk_at "go"
    refine ⟨_, _, _, .raw .hd, T.cl_Timetable, T.na_Timetable_points, rfl, ?_⟩
    walk_at "go"
    refine ⟨rfl, ks, b, rfl, hB, hb0, hb1, by omega, hg.2, hg.1, ?_⟩
    walk_at "go"
    refine ⟨p, _, _, _, rfl, .hd, T.cl_Timetable, T.na_Timetable_turns, by simp, ?_⟩
    rw [put_turns]
    exact hk
end
end My

namespace My
open PySem L2 DL PyProof.Rows SX
local macro_rules | `(tactic| walk_at "go") => `(tactic| repeat (first
  | ((with_reducible refine idE ?_); first
    | ((with_reducible apply XE.var); · exact rfl)
    | (with_reducible first
      | refine XE.op ?_
      | refine XE.int ?_
      | refine XE.str ?_
      | refine XE.ite ?_
      | refine XE.cb ?_
      | refine XE.tup ?_
      | refine XE.bl ?_
      | refine XE.non ?_
      | refine XE.ty ?_
      | refine XE.un ?_
      | refine XE.andV ?_
      | refine XE.orV ?_
      | refine XE.notV ?_
      | refine XE.slice ?_
      | refine XE.chain ?_))
  | ((with_reducible refine idA ?_); with_reducible first
      | refine XA.nil ?_
      | refine XA.cons ?_)
  | ((with_reducible refine idR ?_); first
      | (with_reducible first
        | refine XR.add_int ?_
        | refine XR.eq_int ?_
        | refine XR.ne_int ?_
        | refine XR.i0 ?_
        | refine XR.b0 ?_
        | refine XR.isN ?_
        | refine XR.ntN ?_)
      | refine XR.ix_tup rfl ?_
      | refine XR.ix_lst (by first | exact LsAt.lst | exact LsAt.raw At.hd) rfl ?_)
  | ((with_reducible refine idS ?_); with_reducible first
      | refine XS.seq ?_
      | refine XS.asg ?_
      | refine XS.ret ?_
      | refine XS.ifs ?_
      | refine XS.next ?_
      | refine XS.drop ?_
      | refine XS.par ?_)
  | ((with_reducible refine idT ?_); with_reducible first
      | refine XT.tst ?_
      | refine XT.bool ?_
      | refine XT.and ?_
      | refine XT.or ?_
      | refine XT.not ?_)
  | with_reducible refine ex1 ?_
  | refine pickF rfl ?_
  | refine pickT rfl ?_
  | ((with_reducible refine idO ?_); with_reducible first
      | refine XO.none ?_
      | refine XO.some ?_)
  | ((with_reducible refine idGs ?_); with_reducible first
      | refine XGs.nil ?_
      | refine XGs.cons ?_)
  | ((with_reducible refine idG ?_); with_reducible first
      | refine XG.name (by simp) ?_
      | refine XG.tup rfl ?_)
  | with_reducible refine XC.abs ?_
  | with_reducible refine XU.neg ?_
  | refine ⟨_, _, rfl, ?_⟩
  | refine ⟨_, rfl, ?_⟩
  | refine ⟨show (_ : Nat) + 1 ≤ 16000000 by simp only [List.length_cons, List.length_nil] <;> decide, ?_⟩
  | dsimp only))
local macro_rules | `(tactic| walk_at "sp") => `(tactic| first | refine ⟨[], _, rfl, rfl, ?_⟩ | refine ⟨rfl, ?_⟩)

theorem lit_slash : ("/" : Str) = S [47] := rfl
theorem lit_colon : (":" : Str) = S [58] := rfl
theorem lit_space : (" " : Str) = S [32] := rfl
theorem lit_minus : ("-" : Str) = S [45] := rfl
theorem lit_zero : ("0" : Str) = S [48] := rfl
theorem lit_digits : ("0123456789" : Str) = S [48,49,50,51,52,53,54,55,56,57] := rfl
theorem tabF_ok (ks : List Kn) : okD 3 (.tup (ks.map dKn)) = true := okD_map (n := 2) (fun _ => rfl) ks
def spl_Timetable_eq (C : Addr) : PSp := fun ds k _ => ∃ ks js : List Kn, ds = [dTab C ks, dTab C js] ∧ k (.bl (decide (turns ks = turns js)))
theorem mo_Timetable_eq (C : Addr) : MonoP (spl_Timetable_eq C) := fun _ _ _ _ _ hk _ ⟨ks, js, e, q⟩ => ⟨ks, js, e, hk _ q⟩
def spl_fraction_text : PSp := fun ds k _ => ∃ q : Rat, ds = [dQ q] ∧ Short q ∧ k (.str (S (fracL q)))
theorem mo_fraction_text : MonoP spl_fraction_text := fun _ _ _ _ _ hk _ ⟨q, e, h, z⟩ => ⟨q, e, h, hk _ z⟩
abbrev dN (n : Nat) : D := .int (n : Int)
def spl_number_of : PSp := fun ds k _ => ∃ l : List Nat, ds = [.str (S l)] ∧ l.length ≤ 1000000 ∧ Uni l ∧ k (dO dN (numOf l))
theorem mo_number_of : MonoP spl_number_of := fun _ _ _ _ _ hk _ ⟨q, e, h, h2, z⟩ => ⟨q, e, h, h2, hk _ z⟩
local macro_rules | `(tactic| walk_at "mo") => `(tactic| first | exact mo_fraction_text | exact mo_number_of | exact mo_is_fraction | exact mo_Timetable_eq _)
local macro_rules | `(tactic| walk_at "call") => `(tactic| (refine XE.callP (by walk_at "mo") (fun _ => rfl) (dD := []) (fun _ => .nil) ?_))
section
variable {P : Program} {w : World} {K : PySem.W.Frag} {mg : Str → Option Value} {base : Heap}
theorem ok_number_of (T : Txt K mg) : FnOk P w K mg base (L2.CX P w) 1 T.number_of.a T.number_of.fd ["text"] (spD K 1 (pur (spl_number_of))) := by
  refine fn_okP T.number_of.F sc_number_of rfl fun cdv A outer s H E hr => ?_
  have nd := sc_number_of.nd
  have hu64 := hr.units
  have hu65 := hu65_of hr
  have hu1 := hu_of hr
  refine ⟨_, (pss_cons (ps_if (PW.pt (pw_or (pt_not (pt_chain op_le op_le pe_int (pe_callB (cr_lenK (K := K) rfl) (by rfl) T.m_len PySem.boot_len (pa_cons (pv 0) pa_nil)) (pe_glob rfl T.c_MOST_DIGITS.choose_spec.1 T.c_MOST_DIGITS.choose_spec.2))) (pw_or1 (pt_cmpR (op_neK (K := K) rfl hu64) (pe_lc (own := [("sign", 1)]) (g := gName 1) (by rfl) nd (pi_str (pv 0)) (blkOk_by (N := N_number_of) (sc := defScope s_number_of) (by decide +kernel)) (fun _ _ _ _ _ => (pg_name (i := 1) nd rfl (by first | exact Or.inl rfl | exact Or.inr rfl))) (fun _ _ _ _ _ => (pts_one (pt_cmpR (op_niK (K := K) rfl hu65) (pv 1) (pe_glob rfl T.c_DIGITS.choose_spec.1 T.c_DIGITS.choose_spec.2) (by rfl)))) (fun _ _ _ _ _ => (pv 1))) (pe_lst pa_nil) (nomark _)))))
      (pss_one (ps_ret pe_non))
      pss_nil)
      (pss_one (ps_ret (pe_ifExp (PW.pt (pw_and (pt_cmpR (op_eqK (K := K) rfl hu64) (pe_ix (ix_K (K := K) rfl) (pv 0) pe_int (fun _ _ => rfl)) pe_str (nomark _)) (pw_and1 (pt_cmpR (op_neK (K := K) rfl hu64) (pv 0) pe_str (nomark _))))) pe_non (pe_callTy cr_int (by rfl) T.m_int boot_int (pa_cons (pv 0) pa_nil)))))), fun ds kk xx hl h => ?_⟩
  try dsimp only [cxOf]
  obtain ⟨l, rfl, hl, hu, hk⟩ := h
  walk_at "go"
  refine XC.len_str (lenS (by omega)) ?_
  have hlen : (S l).length = l.length := SX.S_len l
  rw [hlen]
  walk_at "go"
  refine ⟨fun hb => ?_, fun hb => ?_⟩
  rotate_left
  · walk_at "go"
    rw [numOf_no (fun z => by have := of_decide_eq_false hb; omega)] at hk
    exact hk
  walk_at "go"
  refine ⟨fun hb2 => ?_, fun hb2 => ?_⟩
  · walk_at "go"
    have hb2 : decide ((l.length : Int) ≤ 60) = false := by simpa using hb2
    rw [numOf_no (fun z => by have := of_decide_eq_false hb2; omega)] at hk
    exact hk
  have hb2 : decide ((l.length : Int) ≤ 60) = true := by simpa using hb2
  have l1 := of_decide_eq_true hb
  have l2 := of_decide_eq_true hb2
  walk_at "go"
  refine XE.lcE (fun c => D.str ⟨#[c]⟩) badC chr_inj (XI.str ?_)
  walk_at "go"
  refine ⟨by omega, fun c hc => ?_, ?_⟩
  · walk_at "go"
    refine XR.ni_sign ?_
    walk_at "go"
    refine ⟨fun hc => ?_, fun hc => ?_⟩
    · walk_at "go"
      have hc : ¬ c ∈ lDigits.cps.toList := by simpa [lDigits] using hc
      exact ⟨if_neg hc, rfl⟩
    · have hc : c ∈ lDigits.cps.toList := by simpa [lDigits] using hc
      exact ⟨if_pos hc, rfl⟩
  refine XE.lstF ?_
  walk_at "go"
  refine ⟨by decide, ?_⟩
  refine XR.ne_nil .self (bad_ok hu) (by decide) .self ?_
  rw [bad_nil]
  walk_at "go"
  refine ⟨fun hd => ?_, fun hd => ?_⟩
  · have hd : digs l = false := by simpa using hd
    walk_at "go"
    rw [numOf_no (fun z => by have := z.2.2; rw [hd] at this; cases this)] at hk
    exact hk
  have hd : digs l = true := by simpa using hd
  obtain ⟨c, r, rfl⟩ : ∃ c r, l = c :: r := by
    cases l with
    | nil => simp at l1
    | cons c r => exact ⟨c, r, rfl⟩
  have hN : 1 ≤ (c :: r).length ∧ (c :: r).length ≤ 60 ∧ digs (c :: r) = true := ⟨by omega, by omega, hd⟩
  walk_at "go"
  refine XR.ix_str (c := c) (lenS (by omega)) (at_nat (j := 0) (by omega) rfl) ?_
  walk_at "go"
  refine XR.eq_str ?_
  walk_at "go"
  have e0 : decide ((⟨#[c]⟩ : Str) = Str.ofString "0") = decide (c = 48) := by
    rw [lit_zero, decide_eq_decide]
    exact ⟨fun h => by have := SX.S_inj (a := [c]) h; simpa using this, fun h => by rw [h]⟩
  rw [e0]
  refine ⟨fun hz => ?_, fun hz => ?_⟩
  · have hz := of_decide_eq_true hz
    subst hz
    walk_at "go"
    refine XR.ne_str ?_
    walk_at "go"
    rw [lit_zero, S_eq]
    refine ⟨fun hy => ?_, fun hy => ?_⟩
    · walk_at "go"
      rw [numOf_zero rfl (by simpa using hy)] at hk
      exact hk
    · have hy : 48 :: r = [48] := by simpa using hy
      obtain ⟨n, hn⟩ := numOf_some hN (fun z => z.2 hy)
      walk_at "go"
      refine XC.int_str (digs_int hn) (lenS (by omega)) ?_
      walk_at "go"
      rw [hn] at hk
      exact hk
  · have hz := of_decide_eq_false hz
    obtain ⟨n, hn⟩ := numOf_some hN (fun z => hz (by simpa using z.1))
    walk_at "go"
    refine XC.int_str (digs_int hn) (lenS (by omega)) ?_
    walk_at "go"
    rw [hn] at hk
    exact hk
end
end My

namespace My
open PySem L2 DL PyProof.Rows SX
local macro_rules | `(tactic| walk_at "go") => `(tactic| repeat (first
  | ((with_reducible refine idE ?_); first
    | ((with_reducible apply XE.var); · exact rfl)
    | (with_reducible first
      | refine XE.op ?_
      | refine XE.int ?_
      | refine XE.str ?_
      | refine XE.ite ?_
      | refine XE.cb ?_
      | refine XE.tup ?_
      | refine XE.bl ?_
      | refine XE.non ?_
      | refine XE.ty ?_
      | refine XE.un ?_
      | refine XE.andV ?_
      | refine XE.orV ?_
      | refine XE.notV ?_
      | refine XE.slice ?_
      | refine XE.chain ?_))
  | ((with_reducible refine idA ?_); with_reducible first
      | refine XA.nil ?_
      | refine XA.cons ?_)
  | ((with_reducible refine idR ?_); first
      | (with_reducible first
        | refine XR.add_int ?_
        | refine XR.eq_int ?_
        | refine XR.ne_int ?_
        | refine XR.i0 ?_
        | refine XR.b0 ?_
        | refine XR.isN ?_
        | refine XR.ntN ?_)
      | refine XR.ix_tup rfl ?_
      | refine XR.ix_lst (by first | exact LsAt.lst | exact LsAt.raw At.hd) rfl ?_)
  | ((with_reducible refine idS ?_); with_reducible first
      | refine XS.seq ?_
      | refine XS.asg ?_
      | refine XS.ret ?_
      | refine XS.ifs ?_
      | refine XS.next ?_
      | refine XS.drop ?_
      | refine XS.par ?_)
  | ((with_reducible refine idT ?_); with_reducible first
      | refine XT.tst ?_
      | refine XT.bool ?_
      | refine XT.and ?_
      | refine XT.or ?_
      | refine XT.not ?_)
  | with_reducible refine ex1 ?_
  | refine pickF rfl ?_
  | refine pickT rfl ?_
  | ((with_reducible refine idO ?_); with_reducible first
      | refine XO.none ?_
      | refine XO.some ?_)
  | ((with_reducible refine idGs ?_); with_reducible first
      | refine XGs.nil ?_
      | refine XGs.cons ?_)
  | ((with_reducible refine idG ?_); with_reducible first
      | refine XG.name (by simp) ?_
      | refine XG.tup rfl ?_)
  | with_reducible refine XC.abs ?_
  | with_reducible refine XU.neg ?_
  | refine ⟨_, _, rfl, ?_⟩
  | refine ⟨_, rfl, ?_⟩
  | refine ⟨show (_ : Nat) + 1 ≤ 16000000 by simp only [List.length_cons, List.length_nil] <;> decide, ?_⟩
  | dsimp only))
local macro_rules | `(tactic| walk_at "sp") => `(tactic| first | refine ⟨[], _, rfl, rfl, ?_⟩ | refine ⟨rfl, ?_⟩)

theorem str_inj (a b : List Nat) (h : D.str (S a) = D.str (S b)) : a = b := by
  injection h with h
  exact SX.S_inj h
def spl_fraction_of : PSp := fun ds k _ => ∃ l : List Nat, ds = [.str (S l)] ∧ l.length ≤ 1000000 ∧ Uni l ∧ k (dO dQ (fracOf l))
theorem mo_fraction_of : MonoP spl_fraction_of := fun _ _ _ _ _ hk _ ⟨q, e, h, h2, z⟩ => ⟨q, e, h, h2, hk _ z⟩
local macro_rules | `(tactic| walk_at "mo") => `(tactic| first | exact mo_fraction_text | exact mo_number_of | exact mo_is_fraction | exact mo_Timetable_eq _)
local macro_rules | `(tactic| walk_at "call") => `(tactic| (refine XE.callP (by walk_at "mo") (fun _ => rfl) (dD := []) (fun _ => .nil) ?_))
section
variable {P : Program} {w : World} {K : PySem.W.Frag} {mg : Str → Option Value} {base : Heap}
theorem ok_fraction_of (T : Txt K mg) : FnOk P w K mg base (L2.CX P w) 3 T.fraction_of.a T.fraction_of.fd ["text"] (spD K 1 (pur (spl_fraction_of))) := by
  refine fn_okP T.fraction_of.F sc_fraction_of rfl fun cdv A outer s H E hr => ?_
  have nd := sc_fraction_of.nd
  have hu64 := hr.units
  have hu65 := hu65_of hr
  have hu1 := hu_of hr
  refine ⟨_, (pss_cons (ps_set (i := 1) nd rfl (by first | exact Or.inl rfl | exact Or.inr rfl) (pe_ifExp (pt_cmpR (op_eqK (K := K) rfl hu64) (pe_slice (sl_K (K := K) rfl) (pv 0) po_none (po_some pe_int)) pe_str (nomark _)) (pe_slice (sl_K (K := K) rfl) (pv 0) (po_some pe_int) po_none) (pv 0)))
      (pss_cons (ps_set (i := 2) nd rfl (by first | exact Or.inl rfl | exact Or.inr rfl) (pe_splitD (pv 1) pe_str))
      (pss_cons (ps_setLc (i := 3) (own := [("part", 5)]) (g := gName 5) (by rfl) nd rfl rfl (sw_true rfl rfl rfl (by decide +kernel)) (pi_K (K := K) rfl (pv 2)) (blkOk_by (N := N_fraction_of) (sc := defScope s_fraction_of) (by decide +kernel)) (fun _ _ _ _ _ => (pg_name (i := 5) nd rfl (by first | exact Or.inl rfl | exact Or.inr rfl))) (fun _ _ _ _ _ => pts_nil) (fun _ _ _ _ _ => (pe_call (ok_number_of T) (hr.mono (by decide)) rfl T.number_of.g T.number_of.F.kp (b_number_of T) .nil passL (pa_cons (pv 5) pa_nil))))
      (pss_cons (ps_if (PW.pt (pw_or (pt_cmpR op_gt (pe_callB (cr_lenK (K := K) rfl) (by rfl) T.m_len PySem.boot_len (pa_cons (pv 2) pa_nil)) pe_int (nomark _)) (pw_or (pt_cmpR (op_inK (K := K) rfl hu65) pe_non (pv 3) (by rfl)) (pw_or1 (PW.pt (pw_and (pt_cmpR (op_eqK (K := K) rfl hu64) (pe_callB (cr_lenK (K := K) rfl) (by rfl) T.m_len PySem.boot_len (pa_cons (pv 2) pa_nil)) pe_int (nomark _)) (pw_and1 (pt_cmpR op_lt (pe_ix (ix_K (K := K) rfl) (pv 3) pe_int (fun _ _ => rfl)) pe_int (nomark _)))))))))
      (pss_one (ps_ret pe_non))
      pss_nil)
      (pss_cons (ps_if (PW.pt (pw_and (pt_cmpR (op_neK (K := K) rfl hu64) (pv 1) (pv 0) (nomark _)) (pw_and1 (pt_cmpR (op_eqK (K := K) rfl hu64) (pe_ix (ix_K (K := K) rfl) (pv 3) pe_int (fun _ _ => rfl)) pe_int (nomark _)))))
      (pss_one (ps_ret pe_non))
      pss_nil)
      (pss_cons (ps_set (i := 4) nd rfl (by first | exact Or.inl rfl | exact Or.inr rfl) (pe_tup (pa_cons (pe_ifExp (pt_cmpR (op_eqK (K := K) rfl hu64) (pv 1) (pv 0) (nomark _)) (pe_ix (ix_K (K := K) rfl) (pv 3) pe_int (fun _ _ => rfl)) (pe_un un_neg (pe_ix (ix_K (K := K) rfl) (pv 3) pe_int (fun _ _ => rfl)))) (pa_cons (pe_ifExp (pt_cmpR (op_eqK (K := K) rfl hu64) (pe_callB (cr_lenK (K := K) rfl) (by rfl) T.m_len PySem.boot_len (pa_cons (pv 2) pa_nil)) pe_int (nomark _)) (pe_ix (ix_K (K := K) rfl) (pv 3) pe_int (fun _ _ => rfl)) pe_int) pa_nil))))
      (pss_one (ps_ret (pe_ifExp (pt_val (pe_call (ok_is_fraction T) (hr.mono (by decide)) rfl T.is_fraction.g T.is_fraction.F.kp (b_is_fraction T) .nil px0 (pa_cons (pv 4) pa_nil))) (pv 4) pe_non))))))))), fun ds kk xx hl h => ?_⟩
  try dsimp only [cxOf]
  obtain ⟨l, rfl, hl, hu, hk⟩ := h
  have hbl := bare_len l
  have hub := hu.bare
  refine XS.seq (XS.asg (XE.is (.str (S (bareOf l))) ?_ ?_))
  · walk_at "go"
    refine XSl.str (lenS (by omega)) ?_
    rw [cutS_head]
    walk_at "go"
    refine XR.eq_str ?_
    walk_at "go"
    rw [lit_minus, S_eq, take_neg]
    refine ⟨fun hb => ?_, fun hb => ?_⟩
    · walk_at "go"
      refine XSl.str (lenS (by omega)) ?_
      rw [cutS_tail]
      rw [bare_neg hb]
      exact ⟨rfl, rfl⟩
    · walk_at "go"
      rw [bare_pos hb]
      exact ⟨rfl, rfl⟩
  walk_at "go"
  refine XE.m1 ?_
  walk_at "go"
  refine ⟨⟨_, rfl⟩, ?_⟩
  walk_at "go"
  refine XM.split (a := S (bareOf l)) (b := "/") rfl (lenS (by omega)) ?_
  rw [lit_slash, split_c (by decide), map_map']
  walk_at "go"
  have hpl := spl1_len 47 (bareOf l)
  refine XE.lcMap (fun p : List Nat => D.str (S p)) (fun p => dO dN (DL.numOf p)) str_inj (XI.U ?_)
  walk_at "go"
  refine ⟨_, .lst, spl1 47 (bareOf l), rfl, by omega, fun p hp => ?_, ?_⟩
  · have hpl2 := spl1_mem hp
    walk_at "go"
    walk_at "call"
    walk_at "go"
    refine ⟨rfl, p, rfl, by omega, hub.spl hp, ?_⟩
    exact ⟨rfl, rfl⟩
  have hne := spl1_ne 47 (bareOf l)
  unfold fracOf at hk
  rw [← map_map' (dO dN) DL.numOf]
  have hB : ∀ n ∈ (spl1 47 (bareOf l)).map DL.numOf, ∀ m, n = some m → B 200 (m : Int) := fun n hn m e => by
    obtain ⟨p, _, rfl⟩ := List.mem_map.mp hn
    exact numOf_B e
  have hlm : ((spl1 47 (bareOf l)).map DL.numOf).length = (spl1 47 (bareOf l)).length := List.length_map ..
  have hnm : (spl1 47 (bareOf l)).map DL.numOf ≠ [] := by simpa using hne
  generalize hP : (spl1 47 (bareOf l)) = ps at *
  generalize hQ : ps.map DL.numOf = ns at *
  have e1 : (ps.map fun p : List Nat => D.str (S p)).length = ns.length := by rw [List.length_map]; exact hlm.symm
  walk_at "go"
  refine XC.len .lst ?_
  rw [e1]
  walk_at "go"
  refine ⟨fun hb => ?_, fun hb => ?_⟩
  · have hb := of_decide_eq_true hb
    have e : fracN (isNeg l) ns = none := fracN_long (by omega)
    rw [e] at hk
    walk_at "go"
    exact hk
  have hb := of_decide_eq_false hb
  walk_at "go"
  refine XR.inO (e := dN) (n := 0) .lst (fun _ => rfl) (by decide) (fun _ => rfl) ?_
  walk_at "go"
  match ns, hb, hnm, hk, hB with
  | [none], hb, _, hk, _ =>
    refine pickT rfl ?_
    walk_at "go"
    exact hk
  | [none, _], hb, _, hk, _ =>
    refine pickT rfl ?_
    walk_at "go"
    exact hk
  | [some _, none], hb, _, hk, _ =>
    refine pickT rfl ?_
    walk_at "go"
    exact hk
  | _ :: _ :: _ :: _, hb, _, _, _ => exact absurd (show (2 : Int) < _ by simp only [List.length_cons]; omega) hb
  | [some n], hb, _, hk, hB =>
    simp only [List.map_cons, List.map_nil, dO, dN]
    refine pickF rfl ?_
    walk_at "go"
    refine XC.len .lst ?_
    rw [e1]
    walk_at "go"
    refine XR.ne_str ?_
    walk_at "go"
    rw [S_eq, bare_eq]
    cases hng : isNeg l
    · rw [hng] at hk
      refine pickF rfl ?_
      walk_at "go"
      refine XR.eq_str ?_
      rw [S_eq, bare_eq, hng]
      walk_at "go"
      refine XC.len .lst ?_
      rw [e1]
      walk_at "go"
      walk_at "call"
      walk_at "go"
      refine ⟨rfl, _, _, rfl, ?_⟩
      walk_at "go"
      refine pickT (by simp) ?_
      walk_at "go"
      rw [fracN_int, if_neg (by simp)] at hk
      have hk : kk (dQ (Rat.divInt (n : Int) 1)) := hk
      rw [dQ_of1] at hk
      exact hk
    · rw [hng] at hk
      refine pickT rfl ?_
      walk_at "go"
      refine ⟨fun hz => ?_, fun hz => ?_⟩
      · have hz : n = 0 := by have := of_decide_eq_true hz; omega
        walk_at "go"
        rw [fracN_int, if_pos ⟨rfl, hz⟩] at hk
        exact hk
      have hz : ¬ n = 0 := by have := of_decide_eq_false hz; omega
      walk_at "go"
      refine XR.eq_str ?_
      rw [S_eq, bare_eq, hng]
      walk_at "go"
      refine XC.len .lst ?_
      rw [e1]
      walk_at "go"
      walk_at "call"
      walk_at "go"
      refine ⟨rfl, _, _, rfl, ?_⟩
      walk_at "go"
      refine pickT (by simp) ?_
      walk_at "go"
      rw [fracN_int, if_neg (fun z => hz z.2)] at hk
      have hk : kk (dQ (Rat.divInt (-(n : Int)) 1)) := hk
      rw [dQ_of1] at hk
      exact hk
  | [some n, some d], hb, _, hk, hB =>
    simp only [List.map_cons, List.map_nil, dO, dN]
    refine pickF rfl ?_
    walk_at "go"
    refine XC.len .lst ?_
    rw [e1]
    walk_at "go"
    refine ⟨fun h2 => ?_, fun h2 => ?_⟩
    · have h2 : d < 2 := by have := of_decide_eq_true h2; omega
      walk_at "go"
      rw [fracN_two, if_pos h2] at hk
      exact hk
    have h2 : ¬ d < 2 := by have := of_decide_eq_false h2; omega
    walk_at "go"
    refine XR.ne_str ?_
    walk_at "go"
    rw [S_eq, bare_eq]
    cases hng : isNeg l
    · rw [hng] at hk
      refine pickF rfl ?_
      walk_at "go"
      refine XR.eq_str ?_
      rw [S_eq, bare_eq, hng]
      walk_at "go"
      refine XC.len .lst ?_
      rw [e1]
      walk_at "go"
      walk_at "call"
      walk_at "go"
      refine ⟨rfl, _, _, rfl, ?_⟩
      walk_at "go"
      have h1 : decide ((1 : Int) ≤ (d : Int)) = true := decide_eq_true (by omega)
      rw [h1, Bool.true_and]
      rw [fracN_two, if_neg h2, if_neg (by simp)] at hk
      refine ⟨fun hg => ?_, fun hg => ?_⟩
      · have hg := of_decide_eq_true hg
        walk_at "go"
        have hk : kk (dO dQ (if Int.gcd (n : Int) d = 1 then some (Rat.divInt (n : Int) d) else none)) := hk
        rw [if_pos hg] at hk
        have hk : kk (dQ (Rat.divInt (n : Int) d)) := hk
        rw [dQ_of (by omega) hg] at hk
        exact hk
      · have hg := of_decide_eq_false hg
        walk_at "go"
        have hk : kk (dO dQ (if Int.gcd (n : Int) d = 1 then some (Rat.divInt (n : Int) d) else none)) := hk
        rw [if_neg hg] at hk
        exact hk
    · rw [hng] at hk
      refine pickT rfl ?_
      walk_at "go"
      refine ⟨fun hz => ?_, fun hz => ?_⟩
      · have hz : n = 0 := by have := of_decide_eq_true hz; omega
        walk_at "go"
        rw [fracN_two, if_neg h2, if_pos ⟨rfl, hz⟩] at hk
        exact hk
      have hz : ¬ n = 0 := by have := of_decide_eq_false hz; omega
      walk_at "go"
      refine XR.eq_str ?_
      rw [S_eq, bare_eq, hng]
      walk_at "go"
      refine XC.len .lst ?_
      rw [e1]
      walk_at "go"
      walk_at "call"
      walk_at "go"
      refine ⟨rfl, _, _, rfl, ?_⟩
      walk_at "go"
      have h1 : decide ((1 : Int) ≤ (d : Int)) = true := decide_eq_true (by omega)
      rw [h1, Bool.true_and]
      rw [fracN_two, if_neg h2, if_neg (fun z => hz z.2)] at hk
      refine ⟨fun hg => ?_, fun hg => ?_⟩
      · have hg := of_decide_eq_true hg
        walk_at "go"
        have hk : kk (dO dQ (if Int.gcd (-(n : Int)) d = 1 then some (Rat.divInt (-(n : Int)) d) else none)) := hk
        rw [if_pos hg] at hk
        have hk : kk (dQ (Rat.divInt (-(n : Int)) d)) := hk
        rw [dQ_of (by omega) hg] at hk
        exact hk
      · have hg := of_decide_eq_false hg
        walk_at "go"
        have hk : kk (dO dQ (if Int.gcd (-(n : Int)) d = 1 then some (Rat.divInt (-(n : Int)) d) else none)) := hk
        rw [if_neg hg] at hk
        exact hk
end
end My

namespace My
open PySem L2 DL PyProof.Rows SX
local macro_rules | `(tactic| walk_at "go") => `(tactic| repeat (first
  | ((with_reducible refine idE ?_); first
    | ((with_reducible apply XE.var); · exact rfl)
    | (with_reducible first
      | refine XE.op ?_
      | refine XE.int ?_
      | refine XE.str ?_
      | refine XE.ite ?_
      | refine XE.cb ?_
      | refine XE.tup ?_
      | refine XE.bl ?_
      | refine XE.non ?_
      | refine XE.ty ?_
      | refine XE.un ?_
      | refine XE.andV ?_
      | refine XE.orV ?_
      | refine XE.notV ?_
      | refine XE.slice ?_
      | refine XE.chain ?_))
  | ((with_reducible refine idA ?_); with_reducible first
      | refine XA.nil ?_
      | refine XA.cons ?_)
  | ((with_reducible refine idR ?_); first
      | (with_reducible first
        | refine XR.add_int ?_
        | refine XR.eq_int ?_
        | refine XR.ne_int ?_
        | refine XR.i0 ?_
        | refine XR.b0 ?_
        | refine XR.isN ?_
        | refine XR.ntN ?_)
      | refine XR.ix_tup rfl ?_
      | refine XR.ix_lst (by first | exact LsAt.lst | exact LsAt.raw At.hd) rfl ?_)
  | ((with_reducible refine idS ?_); with_reducible first
      | refine XS.seq ?_
      | refine XS.asg ?_
      | refine XS.ret ?_
      | refine XS.ifs ?_
      | refine XS.next ?_
      | refine XS.drop ?_
      | refine XS.par ?_)
  | ((with_reducible refine idT ?_); with_reducible first
      | refine XT.tst ?_
      | refine XT.bool ?_
      | refine XT.and ?_
      | refine XT.or ?_
      | refine XT.not ?_)
  | with_reducible refine ex1 ?_
  | refine pickF rfl ?_
  | refine pickT rfl ?_
  | ((with_reducible refine idO ?_); with_reducible first
      | refine XO.none ?_
      | refine XO.some ?_)
  | ((with_reducible refine idGs ?_); with_reducible first
      | refine XGs.nil ?_
      | refine XGs.cons ?_)
  | ((with_reducible refine idG ?_); with_reducible first
      | refine XG.name (by simp) ?_
      | refine XG.tup rfl ?_)
  | with_reducible refine XC.abs ?_
  | with_reducible refine XU.neg ?_
  | refine ⟨_, _, rfl, ?_⟩
  | refine ⟨_, rfl, ?_⟩
  | refine ⟨show (_ : Nat) + 1 ≤ 16000000 by simp only [List.length_cons, List.length_nil] <;> decide, ?_⟩
  | dsimp only))
local macro_rules | `(tactic| walk_at "sp") => `(tactic| first | refine ⟨[], _, rfl, rfl, ?_⟩ | refine ⟨rfl, ?_⟩)

abbrev dKs (ks : List Kn) : D := .tup (ks.map dKn)
def spl_knot_text : PSp := fun ds k _ => ∃ q : Kn, ds = [dKn q] ∧ Short q.1 ∧ Short q.2 ∧ k (.str (S (knotL q)))
theorem mo_knot_text : MonoP spl_knot_text := fun _ _ _ _ _ hk _ ⟨q, e, h, h2, z⟩ => ⟨q, e, h, h2, hk _ z⟩
def spl_knot_of : PSp := fun ds k _ => ∃ l : List Nat, ds = [.str (S l)] ∧ l.length ≤ 1000000 ∧ Uni l ∧ k (dO dKn (knotOf l))
theorem mo_knot_of : MonoP spl_knot_of := fun _ _ _ _ _ hk _ ⟨q, e, h, h2, z⟩ => ⟨q, e, h, h2, hk _ z⟩
def spl_knots_of : PSp := fun ds k _ => ∃ ws : List (List Nat), ds = [.lst (ws.map fun w => .str (S w))] ∧ ws.length ≤ 1000001 ∧ (∀ w ∈ ws, w.length ≤ 1000000 ∧ Uni w) ∧ k (dO dKs (knotsOf ws))
theorem mo_knots_of : MonoP spl_knots_of := fun _ _ _ _ _ hk _ ⟨q, e, h, h2, z⟩ => ⟨q, e, h, h2, hk _ z⟩
/-- what read_table answers: the text is none, the knots are none of a timetable, the timetable -/
def spl_read_table (C NT NX : Addr) : PSp := fun ds k x => (∃ v : D, ds = [v] ∧ v.tyN.isSome = true ∧ D.isT v "str" = false ∧ x (.ref NX) [("row", .int 0)]) ∨
  ∃ (l : List Nat), ds = [.str (S l)] ∧ l.length ≤ 900000 ∧ Uni l ∧ (∀ ks, knotsOf (spl1 32 l) = some ks → BKs 200 ks) ∧
    (knotsOf (spl1 32 l) = none → x (.ref NX) [("row", .int 0)]) ∧ ∀ ks, knotsOf (spl1 32 l) = some ks → (Good ks → k (dTab C ks)) ∧ (¬ Good ks → x (.ref NT) [])
theorem mo_read_table (C NT NX : Addr) : MonoP (spl_read_table C NT NX) := fun _ _ _ _ _ hk hx h => h.imp (fun ⟨v, e, h1, h2, q⟩ => ⟨v, e, h1, h2, hx _ _ q⟩)
  fun ⟨l, e, h1, h2, h3, q1, q2⟩ => ⟨l, e, h1, h2, h3, fun z => hx _ _ (q1 z), fun ks z => ⟨fun g => hk _ ((q2 ks z).1 g), fun g => hx _ _ ((q2 ks z).2 g)⟩⟩
local macro_rules | `(tactic| walk_at "mo") => `(tactic| first | exact mo_fraction_text | exact mo_fraction_of | exact mo_knot_of | exact mo_knots_of | exact mo_Timetable_knots _)
local macro_rules | `(tactic| walk_at "call") => `(tactic| (refine XE.callP (by walk_at "mo") (fun _ => rfl) (dD := []) (fun _ => .nil) ?_))
section
variable {P : Program} {w : World} {K : PySem.W.Frag} {mg : Str → Option Value} {base : Heap}
theorem ok_knot_of (T : Txt K mg) : FnOk P w K mg base (L2.CX P w) 4 T.knot_of.a T.knot_of.fd ["text"] (spD K 1 (pur (spl_knot_of))) := by
  refine fn_okP T.knot_of.F sc_knot_of rfl fun cdv A outer s H E hr => ?_
  have nd := sc_knot_of.nd
  have hu64 := hr.units
  have hu65 := hu65_of hr
  have hu1 := hu_of hr
  refine ⟨_, (pss_cons (ps_setLc (i := 1) (own := [("part", 2)]) (g := gName 2) (by rfl) nd rfl rfl (sw_true rfl rfl rfl (by decide +kernel)) (pi_K (K := K) rfl (pe_splitD (pv 0) pe_str)) (blkOk_by (N := N_knot_of) (sc := defScope s_knot_of) (by decide +kernel)) (fun _ _ _ _ _ => (pg_name (i := 2) nd rfl (by first | exact Or.inl rfl | exact Or.inr rfl))) (fun _ _ _ _ _ => pts_nil) (fun _ _ _ _ _ => (pe_call (ok_fraction_of T) (hr.mono (by decide)) rfl T.fraction_of.g T.fraction_of.F.kp (b_fraction_of T) .nil passL (pa_cons (pv 2) pa_nil))))
      (pss_one (ps_ret (pe_ifExp (PW.pt (pw_and (pt_cmpR (op_eqK (K := K) rfl hu64) (pe_callB (cr_lenK (K := K) rfl) (by rfl) T.m_len PySem.boot_len (pa_cons (pv 1) pa_nil)) pe_int (nomark _)) (pw_and1 (pt_cmpR (op_niK (K := K) rfl hu65) pe_non (pv 1) (by rfl))))) (pe_callTy (cr_tupK (K := K) rfl) (by rfl) T.m_tuple boot_tuple (pa_cons (pv 1) pa_nil)) pe_non)))), fun ds kk xx hl h => ?_⟩
  try dsimp only [cxOf]
  obtain ⟨l, rfl, hl, hu, hk⟩ := h
  have hpl := spl1_len 58 l
  walk_at "go"
  refine XE.lcMap (fun p : List Nat => D.str (S p)) (fun p => dO dQ (fracOf p)) str_inj (XI.U ?_)
  refine XE.m1 ?_
  walk_at "go"
  refine ⟨⟨_, rfl⟩, ?_⟩
  walk_at "go"
  refine XM.split (a := S l) (b := ":") rfl (lenS (by omega)) ?_
  rw [lit_colon, split_c (by decide), map_map']
  refine ⟨_, .lst, spl1 58 l, rfl, by omega, fun p hp => ?_, ?_⟩
  · have hpl2 := spl1_mem hp
    walk_at "go"
    walk_at "call"
    walk_at "go"
    refine ⟨rfl, p, rfl, by omega, hu.spl hp, ?_⟩
    exact ⟨rfl, rfl⟩
  rw [← map_map' (dO dQ) fracOf]
  walk_at "go"
  refine XC.len .lst ?_
  rw [List.length_map]
  walk_at "go"
  refine ⟨fun hb => ?_, fun hb => ?_⟩
  · have hb := of_decide_eq_true hb
    walk_at "go"
    refine XR.niO (e := dQ) (n := 1) .lst dQ_ok (by decide) eqv_dQ_none ?_
    walk_at "go"
    refine ⟨fun ha => ?_, fun ha => ?_⟩
    · rcases knotOf_eq l with ⟨h1, h2, a, b, e, e2⟩ | ⟨h1, _⟩
      · walk_at "go"
        refine XC.tup .lst ?_
        rw [e2] at hk
        rw [e]
        exact hk
      · exact absurd ⟨by omega, by simpa using ha⟩ h1
    · rcases knotOf_eq l with ⟨h1, h2, _⟩ | ⟨_, e⟩
      · rw [h2] at ha
        cases ha
      · walk_at "go"
        rw [e] at hk
        exact hk
  · have hb := of_decide_eq_false hb
    rcases knotOf_eq l with ⟨h1, _⟩ | ⟨_, e⟩
    · omega
    · walk_at "go"
      rw [e] at hk
      exact hk
theorem ok_knots_of (T : Txt K mg) : FnOk P w K mg base (L2.CX P w) 5 T.knots_of.a T.knots_of.fd ["words"] (spD K 1 (pur (spl_knots_of))) := by
  refine fn_okP T.knots_of.F sc_knots_of rfl fun cdv A outer s H E hr => ?_
  have nd := sc_knots_of.nd
  have hu64 := hr.units
  have hu65 := hu65_of hr
  have hu1 := hu_of hr
  refine ⟨_, (pss_cons (ps_set (i := 1) nd rfl (by first | exact Or.inl rfl | exact Or.inr rfl) (pe_callTy (cr_tupK (K := K) rfl) (by rfl) T.m_tuple boot_tuple (pa_cons (pe_lc (own := [("word", 2)]) (g := gName 2) (by rfl) nd (pi_K (K := K) rfl (pv 0)) (blkOk_by (N := N_knots_of) (sc := defScope s_knots_of) (by decide +kernel)) (fun _ _ _ _ _ => (pg_name (i := 2) nd rfl (by first | exact Or.inl rfl | exact Or.inr rfl))) (fun _ _ _ _ _ => pts_nil) (fun _ _ _ _ _ => (pe_call (ok_knot_of T) (hr.mono (by decide)) rfl T.knot_of.g T.knot_of.F.kp (b_knot_of T) .nil passL (pa_cons (pv 2) pa_nil)))) pa_nil)))
      (pss_one (ps_ret (pe_ifExp (PW.pt (pw_and (pt_cmpR (op_neK (K := K) rfl hu64) (pv 1) (pe_tup pa_nil) (nomark _)) (pw_and1 (pt_cmpR (op_niK (K := K) rfl hu65) pe_non (pv 1) (by rfl))))) (pv 1) pe_non)))), fun ds kk xx hl h => ?_⟩
  try dsimp only [cxOf]
  obtain ⟨ws, rfl, hl, hu, hk⟩ := h
  walk_at "go"
  refine XE.lcMap (fun p : List Nat => D.str (S p)) (fun p => dO dKn (knotOf p)) str_inj (XI.U ?_)
  walk_at "go"
  refine ⟨_, .lst, ws, rfl, by omega, fun p hp => ?_, ?_⟩
  · have hpl2 := hu p hp
    walk_at "go"
    walk_at "call"
    walk_at "go"
    refine ⟨rfl, p, rfl, by omega, hpl2.2, ?_⟩
    exact ⟨rfl, rfl⟩
  rw [← map_map' (dO dKn) knotOf]
  walk_at "go"
  refine XC.tup .lst ?_
  walk_at "go"
  have ho : okD 3 (.tup ((ws.map knotOf).map (dO dKn))) = true := okD_map (n := 2) (dO_ok dKn_ok) _
  refine ⟨by decide, ?_⟩
  refine XR.ne_nilT .self ho (by decide) .self ?_
  walk_at "go"
  refine ⟨fun hb => ?_, fun hb => ?_⟩
  · have hb : ws ≠ [] := by simpa using hb
    walk_at "go"
    refine XR.niO (e := dKn) (n := 2) .tup dKn_ok (by decide) eqv_dKn_none ?_
    walk_at "go"
    have e : knotsOf ws = allSome (ws.map knotOf) := if_neg hb
    rw [e] at hk
    rw [any_none]
    cases ha : allSome (ws.map knotOf) with
    | none =>
      rw [ha] at hk
      refine pickF rfl ?_
      walk_at "go"
      exact hk
    | some ks =>
      rw [ha] at hk
      refine pickT rfl ?_
      walk_at "go"
      rw [allSome_iff.mp ha, map_map']
      exact hk
  · have hb : ws = [] := by simpa using hb
    walk_at "go"
    have e : knotsOf ws = none := if_pos hb
    rw [e] at hk
    exact hk
theorem ok_NoText_init (T : Txt K mg) : FnOk P w K mg base (L2.CX P w) 1 T.NoText_init.a T.NoText_init.fd ["self", "row"] (spI T.C_NoText "row") :=
  T.NoText_init.F.ok sc_NoText_init (fun vs H Q E h => by obtain ⟨a, y, e, _⟩ := h; rw [e]; rfl) fun cdv A outer s H vs Q E hr h =>
    ⟨_, pss_one (ps_ost (pv 0) (pv 1)), init_run T.ox_NoText T.nf_NoText_row rfl h⟩
theorem ok_read_table (T : Txt K mg) : FnOk P w K mg base (L2.CX P w) 8 T.read_table.a T.read_table.fd ["text"] (spD K 1 (pur (spl_read_table T.C_Timetable T.C_NoTable T.C_NoText))) := by
  refine fn_okP T.read_table.F sc_read_table rfl fun cdv A outer s H E hr => ?_
  have nd := sc_read_table.nd
  have hu64 := hr.units
  have hu65 := hu65_of hr
  have hu1 := hu_of hr
  refine ⟨_, (pss_cons (ps_set (i := 1) nd rfl (by first | exact Or.inl rfl | exact Or.inr rfl) (pe_ifExp (pt_val (pe_callB (cr_isiK (K := K) rfl) (by rfl) T.m_isinstance boot_isinstance (pa_cons (pv 0) (pa_cons (pe_bltn (v := .ty "str") (by rfl) T.m_str boot_str rfl) pa_nil)))) (pe_call (ok_knots_of T) (hr.mono (by decide)) rfl T.knots_of.g T.knots_of.F.kp (b_knots_of T) .nil px0 (pa_cons (pe_splitD (pv 0) pe_str) pa_nil)) pe_non))
      (pss_cons (ps_if (pt_cmpR op_isN' (pv 1) pe_non (nomark _))
      (pss_one (ps_raise rfl (takes_of rfl rfl rfl rfl) (pmk_oex T.ox_NoText T.NoText_init.me.at_ T.ti_NoText (ok_NoText_init T) (hr.mono (by decide)) (b_NoText_init T) .nil pxF rfl T.g_NoText (pa_cons pe_int pa_nil))))
      pss_nil)
      (pss_one (ps_ret (pe_make T.mk_Timetable (ok_Timetable_init T) (hr.mono (by decide)) rfl T.g_Timetable (b_Timetable_init T) .nil px0 (pa_cons (pv 1) pa_nil)))))), fun ds kk xx hl h => ?_⟩
  try dsimp only [cxOf]
  walk_at "go"
  rcases h with ⟨v, rfl, hv, hs, hx⟩ | ⟨l, rfl, hl, hu, hB, hx, hks⟩
  · walk_at "go"
    refine XC.isT hv (by simp) ?_
    rw [hs]
    walk_at "go"
    refine XS.raiseI (fun _ => rfl) ?_
    walk_at "go"
    exact hx
  · have hpl := spl1_len 32 l
    walk_at "go"
    refine XC.isT rfl (by simp) ?_
    walk_at "go"
    walk_at "call"
    refine XA.cons (XE.m1 ?_)
    walk_at "go"
    refine ⟨⟨_, rfl⟩, ?_⟩
    walk_at "go"
    refine XM.split (a := S l) (b := " ") rfl (lenS (by omega)) ?_
    rw [lit_space, split_c (by decide), map_map']
    walk_at "go"
    refine ⟨rfl, spl1 32 l, rfl, by omega, fun w hw => ⟨by have := spl1_mem hw; omega, hu.spl hw⟩, ?_⟩
    cases hk : knotsOf (spl1 32 l) with
    | none =>
      simp only [dO]
      walk_at "go"
      refine XS.raiseI (fun _ => rfl) ?_
      walk_at "go"
      exact hx hk
    | some ks =>
      obtain ⟨h1, h2⟩ := hks ks hk
      have hlen : ks.length ≤ 1000000 := by
        have e : allSome ((spl1 32 l).map knotOf) = some ks := by
          have := hk
          unfold knotsOf at this
          rw [if_neg (spl1_ne 32 l)] at this
          exact this
        have := congrArg List.length (allSome_iff.mp e)
        rw [List.length_map, List.length_map] at this
        omega
      simp only [dO]
      walk_at "go"
      refine XE.make false (mo_Timetable_init _ _) (fun _ => rfl) (dD := []) (fun _ => .nil) ?_
      walk_at "go"
      intro p hp
      exact ⟨rfl, p, dKs ks, ks, 200, rfl, rfl, .inr rfl, hB ks hk, by decide, by decide, hlen, fun g => ⟨rfl, tabF ks, rfl, h1 g⟩, h2⟩
end
end My

namespace My
open PySem L2 DL PyProof.Rows SX
local macro_rules | `(tactic| walk_at "go") => `(tactic| repeat (first
  | ((with_reducible refine idE ?_); first
    | ((with_reducible apply XE.var); · exact rfl)
    | (with_reducible first
      | refine XE.op ?_
      | refine XE.int ?_
      | refine XE.str ?_
      | refine XE.ite ?_
      | refine XE.cb ?_
      | refine XE.tup ?_
      | refine XE.bl ?_
      | refine XE.non ?_
      | refine XE.ty ?_
      | refine XE.un ?_
      | refine XE.andV ?_
      | refine XE.orV ?_
      | refine XE.notV ?_
      | refine XE.slice ?_
      | refine XE.chain ?_))
  | ((with_reducible refine idA ?_); with_reducible first
      | refine XA.nil ?_
      | refine XA.cons ?_)
  | ((with_reducible refine idR ?_); first
      | (with_reducible first
        | refine XR.add_int ?_
        | refine XR.eq_int ?_
        | refine XR.ne_int ?_
        | refine XR.i0 ?_
        | refine XR.b0 ?_
        | refine XR.isN ?_
        | refine XR.ntN ?_)
      | refine XR.ix_tup rfl ?_
      | refine XR.ix_lst (by first | exact LsAt.lst | exact LsAt.raw At.hd) rfl ?_)
  | ((with_reducible refine idS ?_); with_reducible first
      | refine XS.seq ?_
      | refine XS.asg ?_
      | refine XS.ret ?_
      | refine XS.ifs ?_
      | refine XS.next ?_
      | refine XS.drop ?_
      | refine XS.par ?_)
  | ((with_reducible refine idT ?_); with_reducible first
      | refine XT.tst ?_
      | refine XT.bool ?_
      | refine XT.and ?_
      | refine XT.or ?_
      | refine XT.not ?_)
  | with_reducible refine ex1 ?_
  | refine pickF rfl ?_
  | refine pickT rfl ?_
  | ((with_reducible refine idO ?_); with_reducible first
      | refine XO.none ?_
      | refine XO.some ?_)
  | ((with_reducible refine idGs ?_); with_reducible first
      | refine XGs.nil ?_
      | refine XGs.cons ?_)
  | ((with_reducible refine idG ?_); with_reducible first
      | refine XG.name (by simp) ?_
      | refine XG.tup rfl ?_)
  | with_reducible refine XC.abs ?_
  | with_reducible refine XU.neg ?_
  | refine ⟨_, _, rfl, ?_⟩
  | refine ⟨_, rfl, ?_⟩
  | refine ⟨show (_ : Nat) + 1 ≤ 16000000 by simp only [List.length_cons, List.length_nil] <;> decide, ?_⟩
  | dsimp only))
local macro_rules | `(tactic| walk_at "sp") => `(tactic| first | refine ⟨[], _, rfl, rfl, ?_⟩ | refine ⟨rfl, ?_⟩)

def sp_L_begun : DSp := fun ds M k _ => ∃ (v : D) (xs : List Int), ds = [v] ∧ M = [] ∧ WkAt v (xs.map D.int) ∧ xs.length ≤ 1000 ∧ ∀ s l M', IsSt s l 0 M' → k (.raw s) M'
theorem mo_L_begun : MonoD sp_L_begun := fun _ _ _ _ _ _ hk _ ⟨v, xs, e, e2, h1, h2, q⟩ => ⟨v, xs, e, e2, h1, h2, fun s l M' h => hk _ _ (q s l M' h)⟩
def sp_L_mixed : DSp := fun ds M k _ => ∃ s l L cs r t n, ds = [.raw s] ∧ M = stM s l L cs r t ∧ StOk L cs r t n ∧ ∀ v : Int, 0 ≤ v → k (.int v) (stM s l L cs r (t + 1))
theorem mo_L_mixed : MonoD sp_L_mixed := fun _ _ _ _ _ _ hk _ ⟨s, l, L, cs, r, t, n, e, e2, h, q⟩ => ⟨s, l, L, cs, r, t, n, e, e2, h, fun v h => hk _ _ (q v h)⟩
def sp_L_draw : DSp := fun ds M k _ => ∃ (s l : Addr) (n : Nat) (sz : Int), ds = [.raw s, .int sz] ∧ IsSt s l n M ∧ n + 1 ≤ 1000000000 ∧ 0 < sz ∧ sz ≤ 1000000000000 ∧ ∀ (r : Int) M', 0 ≤ r → r < sz → IsSt s l (n + 1) M' → k (.int r) M'
theorem mo_L_draw : MonoD sp_L_draw := fun _ _ _ _ _ _ hk _ ⟨s, l, n, sz, e, e2, h1, h2, h3, q⟩ => ⟨s, l, n, sz, e, e2, h1, h2, h3, fun r M' a b c => hk _ _ (q r M' a b c)⟩
def sp_L_pick : DSp := fun ds M k _ => ∃ (s l : Addr) (n : Nat) (v : D) (xs : List D), ds = [.raw s, v] ∧ IsSt s l n M ∧ n + 1 ≤ 1000000000 ∧ (v = .lst xs ∨ v = .tup xs) ∧ xs ≠ [] ∧ xs.length ≤ 1000000 ∧ ∀ x M', x ∈ xs → IsSt s l (n + 1) M' → k x M'
theorem mo_L_pick : MonoD sp_L_pick := fun _ _ _ _ _ _ hk _ ⟨s, l, n, v, xs, e, e2, h1, h2, h3, h4, q⟩ => ⟨s, l, n, v, xs, e, e2, h1, h2, h3, h4, fun r M' a b => hk _ _ (q r M' a b)⟩
local macro_rules | `(tactic| walk_at "mo") => `(tactic| first | exact mo_L_draw | exact mo_L_mixed | exact mo_L_pick)
local macro_rules | `(tactic| walk_at "callD") => `(tactic| (refine XE.call (by walk_at "mo") (fun _ => rfl) (dD := []) (fun _ => .nil) ?_))
theorem fmod_pos {a p : Int} (ha : 0 ≤ a) (hp : 0 < p) : 0 ≤ a.fmod p ∧ a.fmod p < p := by
  rw [Int.fmod_eq_emod_of_nonneg _ (by omega)]
  exact ⟨Int.emod_nonneg _ (by omega), Int.emod_lt_of_pos _ hp⟩
theorem fdiv_pos {a p : Int} (ha : 0 ≤ a) (hp : 0 < p) : 0 ≤ a.fdiv p := by
  rw [Int.fdiv_eq_ediv_of_nonneg _ (by omega)]
  exact Int.ediv_nonneg ha (by omega)
theorem primes {i : Nat} {x : D} (h : [D.int 2147483629, D.int 2147483587, D.int 2147483579, D.int 2147483563][i]? = some x) : ∃ p : Int, x = .int p ∧ 0 < p ∧ p ≤ 2147483629 ∧ i < 4 := by
  match i, h with
  | 0, h => cases h; exact ⟨_, rfl, by decide, by decide, by decide⟩
  | 1, h => cases h; exact ⟨_, rfl, by decide, by decide, by decide⟩
  | 2, h => cases h; exact ⟨_, rfl, by decide, by decide, by decide⟩
  | 3, h => cases h; exact ⟨_, rfl, by decide, by decide, by decide⟩
  | _ + 4, h => cases h
section
variable {P : Program} {w : World} {K : PySem.W.Frag} {mg : Str → Option Value} {base : Heap}
theorem ok_L_begun (T : Txt K mg) : FnOk P w K mg base (L2.CX P w) 1 T.L_begun.a T.L_begun.fd ["script"] (spD K 1 (sp_L_begun)) := by
  refine fn_okD T.L_begun.F sc_L_begun rfl fun cdv A outer s H E hr => ?_
  have nd := sc_L_begun.nd
  have hu64 := hr.units
  have hu65 := hu65_of hr
  have hu1 := hu_of hr
  refine ⟨_, (pss_cons (ps_setLc (i := 1) (own := [("cell", 2)]) (g := gName 2) (by rfl) nd rfl rfl (sw_true rfl rfl rfl (by decide +kernel)) (pi_K (K := K) rfl (pv 0)) (blkOk_by (N := N_L_begun) (sc := defScope s_L_begun) (by decide +kernel)) (fun _ _ _ _ _ => (pg_name (i := 2) nd rfl (by first | exact Or.inl rfl | exact Or.inr rfl))) (fun _ _ _ _ _ => (pts_one (pt_cmpR op_ge (pe_callB cr_abs (by rfl) T.m_abs boot_abs (pa_cons (pv 2) pa_nil)) (pe_op op_pow pe_int pe_int) (nomark _)))) (fun _ _ _ _ _ => (pe_op op_sub (pe_callB cr_abs (by rfl) T.m_abs boot_abs (pa_cons (pv 2) pa_nil)) (pe_op op_pow pe_int pe_int))))
      (pss_one (ps_ret (pe_disp (pps_cons pe_str (pv 1) (pps_cons pe_str (pe_lc (own := [("cell", 2)]) (g := gName 2) (by rfl) nd (pi_K (K := K) rfl (pv 0)) (blkOk_by (N := N_L_begun) (sc := defScope s_L_begun) (by decide +kernel)) (fun _ _ _ _ _ => (pg_name (i := 2) nd rfl (by first | exact Or.inl rfl | exact Or.inr rfl))) (fun _ _ _ _ _ => pts_nil) (fun _ _ _ _ _ => (pe_op op_modN (pe_callB cr_abs (by rfl) T.m_abs boot_abs (pa_cons (pv 2) pa_nil)) pe_int))) (pps_cons pe_str pe_int (pps_cons pe_str pe_int pps_nil)))) (by rfl) (by rfl) (fun z => by cases z) (by decide))))), fun ds M kk xx hl h => ?_⟩
  try dsimp only [cxOf]
  obtain ⟨v, xs, rfl, rfl, hv, hl, hk⟩ := h
  refine XS.seq (XS.asg (XE.lcG true (XI.U ?_)))
  walk_at "go"
  refine ⟨_, hv, fun i acc M => (∃ L : List Int, acc = L.map D.int ∧ L.length ≤ i ∧ ∀ x ∈ L, 0 ≤ x) ∧ M = [], ⟨⟨[], rfl, Nat.le_refl _, by simp⟩, rfl⟩, ?_, ?_⟩
  · rintro i x acc M hx ⟨⟨L, rfl, hL, hp⟩, rfl⟩
    obtain ⟨z, hz, rfl⟩ := map_get hx
    have hi : i < xs.length := (List.getElem?_eq_some_iff.mp hz).1
    walk_at "go"
    refine XR.i ⟨by decide, by decide, by decide⟩ ?_
    walk_at "go"
    refine ⟨fun hb => ?_, fun hb => ?_⟩
    · walk_at "go"
      refine XR.i ⟨by decide, by decide, by decide⟩ ?_
      walk_at "go"
      have hb : (10 : Int) ^ 18 ≤ (z.natAbs : Int) := of_decide_eq_true hb
      refine ⟨by rw [List.length_map]; omega, ⟨L ++ [(z.natAbs : Int) - 10 ^ 18], by simp only [List.map_append, List.map_cons, List.map_nil]; rfl, by simp; omega, fun y hy => ?_⟩, rfl⟩
      rcases List.mem_append.mp hy with hy | hy
      · exact hp y hy
      · rw [List.mem_singleton.mp hy]
        omega
    · exact ⟨⟨L, rfl, by omega, hp⟩, rfl⟩
  rintro acc M ⟨⟨L, rfl, hL, hp⟩, rfl⟩
  rw [if_pos rfl]
  intro l hl0
  walk_at "go"
  refine XE.disp fun s hs => ?_
  refine XPr.cons ?_
  walk_at "go"
  refine XPr.cons ?_
  walk_at "go"
  refine XE.lcMap D.int (fun z : Int => D.int (z.natAbs % 2147483629)) (fun a b h => by injection h) (XI.U ?_)
  walk_at "go"
  refine ⟨_, hv, xs, rfl, by omega, fun z hz => ?_, ?_⟩
  · walk_at "go"
    refine XR.i (by decide) ?_
    refine ⟨?_, rfl⟩
    rw [Int.fmod_eq_emod_of_nonneg _ (by omega)]
  refine XPr.cons ?_
  walk_at "go"
  refine XPr.cons ?_
  walk_at "go"
  refine XPr.nil ?_
  have e : (xs.map fun z : Int => D.int (z.natAbs % 2147483629)) = (xs.map fun z : Int => ((z.natAbs : Int) % 2147483629)).map D.int := (map_map' _ _ _).symm
  rw [e]
  refine ⟨stD l (xs.map fun z : Int => ((z.natAbs : Int) % 2147483629)) 0 0, _, rfl, by show 4 ≤ 15; decide, .hd, ?_⟩
  rw [merge_st]
  refine hk s l _ ⟨L, _, 0, 0, rfl, ⟨hp, fun x hx => ?_, by omega, by omega, by omega, by rw [List.length_map]; exact hl⟩⟩
  obtain ⟨z, _, rfl⟩ := List.mem_map.mp hx
  omega
theorem ok_L_mixed (T : Txt K mg) : FnOk P w K mg base (L2.CX P w) 1 T.L_mixed.a T.L_mixed.fd ["state"] (spD K 1 (sp_L_mixed)) := by
  refine fn_okD T.L_mixed.F sc_L_mixed rfl fun cdv A outer s H E hr => ?_
  have nd := sc_L_mixed.nd
  have hu64 := hr.units
  have hu65 := hu65_of hr
  have hu1 := hu_of hr
  refine ⟨_, (pss_cons (ps_set (i := 1) nd rfl (by first | exact Or.inl rfl | exact Or.inr rfl) (pe_op (op_addK (K := K) rfl) (pe_dget hu1 (pv 0) pe_str (fun _ _ => rfl)) pe_int))
      (pss_cons (ps_dput hu1 (pv 0) pe_str (pv 1) rfl)
      (pss_cons (ps_set (i := 2) nd rfl (by first | exact Or.inl rfl | exact Or.inr rfl) pe_int)
      (pss_cons (ps_for (passes_of rfl) rfl (pi_K (K := K) rfl (pe_lst (pa_cons pe_int (pa_cons pe_int (pa_cons pe_int (pa_cons pe_int pa_nil)))))) (pg_name (i := 3) nd rfl (by first | exact Or.inl rfl | exact Or.inr rfl))
      (pss_cons (ps_set (i := 4) nd rfl (by first | exact Or.inl rfl | exact Or.inr rfl) (pe_op (op_addK (K := K) rfl) (pe_op op_mulW pe_int (pv 1)) (pe_op op_fdivZ (pv 3) pe_int)))
      (pss_cons (ps_for (passes_of rfl) rfl (pi_K (K := K) rfl (pe_dget hu1 (pv 0) pe_str (fun _ _ => rfl))) (pg_name (i := 5) nd rfl (by first | exact Or.inl rfl | exact Or.inr rfl))
      (pss_one (ps_set (i := 4) nd rfl (by first | exact Or.inl rfl | exact Or.inr rfl) (pe_op op_modN (pe_op (op_addK (K := K) rfl) (pe_op (op_addK (K := K) rfl) (pe_op op_mulW (pv 4) pe_int) (pv 5)) (pv 1)) (pv 3)))))
      (pss_one (ps_set (i := 2) nd rfl (by first | exact Or.inl rfl | exact Or.inr rfl) (pe_op (op_addK (K := K) rfl) (pe_op op_mulW (pv 2) pe_int) (pe_op op_modN (pe_op op_pow (pv 4) pe_int) (pv 3))))))))
      (pss_one (ps_ret (pv 2))))))), fun ds M kk xx hl h => ?_⟩
  try dsimp only [cxOf]
  obtain ⟨s, l, L, cs, r, t, n, rfl, rfl, hO, hk⟩ := h
  have ht := hO.turn
  have hn := hO.bud
  refine XS.seq (XS.asg (XE.op (XE.dget ?_)))
  walk_at "go"
  refine ⟨_, kS "turn", _, .raw .hd, rfl, val_turn .., ?_⟩
  walk_at "go"
  refine XS.dput ?_
  walk_at "go"
  refine ⟨s, _, kS "turn", _, rfl, rfl, .hd, by show 4 < 16000000; decide, ?_⟩
  rw [put_turn]
  walk_at "go"
  refine XS.for [3] (XI.U (XE.lstF ?_))
  walk_at "go"
  refine ⟨_, .lst, fun i ds M => (∃ f y z u, ds = [some (.raw s), some (.int (t + 1)), some (.int f), y, z, u] ∧ 0 ≤ f ∧ B (40 * i + 1) f) ∧ M = stM s l L cs r (t + 1), ⟨⟨0, _, _, _, rfl, by omega, B.zero⟩, rfl⟩, ?_, ?_⟩
  · rintro i x _ M hx ⟨⟨f, y, z, u, rfl, hf, hB⟩, rfl⟩
    obtain ⟨p, rfl, hp, hp2, hi⟩ := primes hx
    walk_at "go"
    refine XR.i (wide_mul (a := 64) (b := 64) (by decide) (by show _ < 2 ^ 64; omega) (by decide) (by decide) (by decide)) ?_
    walk_at "go"
    refine XR.i ⟨by decide, by decide⟩ ?_
    walk_at "go"
    have h7 : 0 ≤ p.fdiv 7 ∧ p.fdiv 7 ≤ p := by
      rw [Int.fdiv_eq_ediv_of_nonneg _ (by omega)]
      omega
    refine XS.for [5] (XI.U (XE.dget ?_))
    walk_at "go"
    refine ⟨_, kS "cells", _, .raw .hd, rfl, val_cells .., _, .lst, fun j ds M => (∃ g u, ds = [some (.raw s), some (.int (t + 1)), some (.int f), some (.int p), some (.int g), u] ∧ 0 ≤ g ∧ g < 2 ^ 50) ∧ M = stM s l L cs r (t + 1), ⟨⟨_, _, rfl, by omega, by omega⟩, rfl⟩, ?_, ?_⟩
    · rintro j x _ M hx ⟨⟨g, u, rfl, hg, hg2⟩, rfl⟩
      obtain ⟨c, hc, rfl⟩ := map_get hx
      have hc2 := hO.cells c (List.mem_of_getElem? hc)
      walk_at "go"
      refine XR.i (wide_mul (a := 64) (b := 64) (by show _ < 2 ^ 64; omega) (by decide) (by decide) (by decide) (by decide)) ?_
      walk_at "go"
      refine XR.i (by omega) ?_
      walk_at "go"
      have h8 := fmod_pos (a := g * 48271 + c + (t + 1)) (p := p) (by omega) (by omega)
      exact ⟨⟨_, _, rfl, h8.1, by omega⟩, rfl⟩
    rintro _ M ⟨⟨g, u, rfl, hg, hg2⟩, rfl⟩
    walk_at "go"
    refine XR.i (hB.mulOk (m := 32) (show Int.natAbs 2147483647 < 2 ^ 32 by decide) (by omega) (by decide) (by omega)) ?_
    walk_at "go"
    refine XR.i ⟨by decide, by decide, by show g.natAbs < 2 ^ 64; omega⟩ ?_
    walk_at "go"
    refine XR.i (by omega) ?_
    walk_at "go"
    have h9 := fmod_pos (a := g ^ 5) (p := p) (Int.pow_nonneg hg) (by omega)
    have hB2 : B 32 ((g ^ 5).fmod p) := by
      show ((g ^ 5).fmod p).natAbs < 2 ^ 32
      omega
    refine ⟨⟨f * 2147483647 + (g ^ 5).fmod p, _, _, _, rfl, ?_, (B.add (hB.mul (m := 32) (y := 2147483647) (show Int.natAbs 2147483647 < 2 ^ 32 by decide)) hB2).mono (by omega)⟩, rfl⟩
    have := Int.mul_nonneg hf (show (0 : Int) ≤ 2147483647 by decide)
    omega
  rintro _ M ⟨⟨f, y, z, u, rfl, hf, hB⟩, rfl⟩
  walk_at "go"
  exact hk f hf
theorem ok_L_draw (T : Txt K mg) : FnOk P w K mg base (L2.CX P w) 2 T.L_draw.a T.L_draw.fd ["state", "size"] (spD K 2 (sp_L_draw)) := by
  refine fn_okD T.L_draw.F sc_L_draw rfl fun cdv A outer s H E hr => ?_
  have nd := sc_L_draw.nd
  have hu64 := hr.units
  have hu65 := hu65_of hr
  have hu1 := hu_of hr
  refine ⟨_, (pss_cons (ps_if (PW.pt (pw_and (pt_cmpR (op_eqK (K := K) rfl hu64) (pe_dget hu1 (pv 0) pe_str (fun _ _ => rfl)) pe_int (nomark _)) (pw_and1 (pt_cmpR (op_neK (K := K) rfl hu64) (pe_dget hu1 (pv 0) pe_str (fun _ _ => rfl)) (pe_lst pa_nil) (nomark _)))))
      (pss_one (ps_dput hu1 (pv 0) pe_str (pe_bmK (K := K) rfl PySem.F.plainAttrs_list PySem.F.slot_list_pop PySem.F.type_list_pop mt_popAt (pe_dget hu1 (pv 0) pe_str (fun _ _ => rfl)) (pa_cons pe_int pa_nil)) rfl))
      (pss_one (ps_if (pt_cmpR (op_eqK (K := K) rfl hu64) (pe_dget hu1 (pv 0) pe_str (fun _ _ => rfl)) pe_int (nomark _))
      (pss_one (ps_dput hu1 (pv 0) pe_str (pe_call (ok_L_mixed T) (hr.mono (by decide)) rfl T.L_mixed.g T.L_mixed.F.kp (b_L_mixed T) .nil px0 (pa_cons (pv 0) pa_nil)) rfl))
      pss_nil)))
      (pss_cons (ps_set (i := 2) nd rfl (by first | exact Or.inl rfl | exact Or.inr rfl) (pe_op op_modN (pe_dget hu1 (pv 0) pe_str (fun _ _ => rfl)) (pv 1)))
      (pss_cons (ps_dput hu1 (pv 0) pe_str (pe_op op_fdivZ (pe_dget hu1 (pv 0) pe_str (fun _ _ => rfl)) (pv 1)) rfl)
      (pss_one (ps_ret (pv 2)))))), fun ds M kk xx hl h => ?_⟩
  try dsimp only [cxOf]
  obtain ⟨s, l, n, sz, rfl, ⟨L, cs, r, t, rfl, hO⟩, hn, hz, hz2, hk⟩ := h
  have hO1 : StOk L cs r t (n + 1) := ⟨hO.large, hO.cells, hO.rest, ⟨hO.turn.1, by have := hO.turn.2; omega⟩, hn, hO.len⟩
  refine XS.cut (fun ds M => ds = [some (.raw s), some (.int sz), none] ∧ ∃ L r t, M = stM s l L cs r t ∧ StOk L cs r t (n + 1)) (XS.ifs ?_) ?_
  rotate_left
  · rintro _ _ ⟨rfl, L, r, t, rfl, hO⟩
    refine XS.seq (XS.asg (XE.op (XE.dget ?_)))
    walk_at "go"
    refine ⟨_, kS "rest", _, .raw .hd, rfl, val_rest .., ?_⟩
    walk_at "go"
    refine XR.i (by omega) ?_
    walk_at "go"
    refine XS.dput (XE.op (XE.dget ?_))
    walk_at "go"
    refine ⟨_, kS "rest", _, .raw .hd, rfl, val_rest .., ?_⟩
    walk_at "go"
    refine XR.i (B.divOk (n := 64) (show sz.natAbs < 2 ^ 64 by omega) (by omega) (by decide) (by decide)) ?_
    walk_at "go"
    refine ⟨s, _, kS "rest", _, rfl, rfl, .hd, by show 4 < 16000000; decide, ?_⟩
    rw [put_rest]
    walk_at "go"
    have h1 := fmod_pos (a := r) hO.rest hz
    exact hk _ _ h1.1 h1.2 ⟨L, cs, _, t, rfl, ⟨hO.large, hO.cells, fdiv_pos hO.rest hz, hO.turn, hO.bud, hO.len⟩⟩
  walk_at "go"
  refine XE.dget ?_
  walk_at "go"
  refine ⟨_, kS "rest", _, .raw .hd, rfl, val_rest .., ?_⟩
  walk_at "go"
  refine ⟨fun hb => ?_, fun hb => ?_⟩
  · walk_at "go"
    refine XE.dget ?_
    walk_at "go"
    refine ⟨_, kS "large", _, .raw .hd, rfl, val_large .., ?_⟩
    refine XE.lstF ?_
    walk_at "go"
    refine ⟨by decide, XR.ne_nil (n := 1) (.raw (.tl .hd)) (okD_map (n := 0) (fun _ => rfl) L) (by decide) .self ?_⟩
    walk_at "go"
    refine ⟨fun hc => ?_, fun hc => ?_⟩
    · have hc : L ≠ [] := by simpa using hc
      obtain ⟨a, L', rfl⟩ : ∃ a L', L = a :: L' := by
        cases L with
        | nil => exact absurd rfl hc
        | cons a L' => exact ⟨a, L', rfl⟩
      refine XS.dput (XE.bm (XE.dget ?_))
      walk_at "go"
      refine ⟨_, kS "large", _, .raw .hd, rfl, val_large .., ?_⟩
      refine ⟨ty_lst (.raw (.tl .hd)), ?_⟩
      walk_at "go"
      refine XM.popAt (y := .int a) (j := 0) (.tl .hd) (by decide) (by decide) (by simp [seqIndex?]) rfl ?_
      walk_at "go"
      refine ⟨s, _, kS "rest", _, rfl, rfl, .hd, by show 4 < 16000000; decide, ?_⟩
      rw [put_rest]
      exact ⟨rfl, L', a, t, rfl, ⟨fun x hx => hO.large x (List.mem_cons_of_mem _ hx), hO.cells, hO.large a (List.mem_cons_self ..), hO1.turn, hO1.bud, hO.len⟩⟩
    · walk_at "go"
      refine XE.dget ?_
      walk_at "go"
      refine ⟨_, kS "rest", _, .raw .hd, rfl, val_rest .., ?_⟩
      walk_at "go"
      refine pickT hb ?_
      refine XS.dput ?_
      walk_at "callD"
      walk_at "go"
      refine ⟨[], _, rfl, rfl, s, l, L, cs, r, t, n, rfl, rfl, hO, fun v hv => ?_⟩
      walk_at "go"
      refine ⟨s, _, kS "rest", _, rfl, rfl, .hd, by show 4 < 16000000; decide, ?_⟩
      rw [put_rest]
      exact ⟨rfl, L, v, t + 1, rfl, ⟨hO.large, hO.cells, hv, ⟨by have := hO.turn.1; omega, by have := hO.turn.2; omega⟩, hn, hO.len⟩⟩
  · walk_at "go"
    refine XE.dget ?_
    walk_at "go"
    refine ⟨_, kS "rest", _, .raw .hd, rfl, val_rest .., ?_⟩
    walk_at "go"
    refine pickF hb ?_
    walk_at "go"
    exact ⟨rfl, L, r, t, rfl, hO1⟩
theorem ok_L_pick (T : Txt K mg) : FnOk P w K mg base (L2.CX P w) 3 T.L_pick.a T.L_pick.fd ["state", "items"] (spD K 2 (sp_L_pick)) := by
  refine fn_okD T.L_pick.F sc_L_pick rfl fun cdv A outer s H E hr => ?_
  have nd := sc_L_pick.nd
  have hu64 := hr.units
  have hu65 := hu65_of hr
  have hu1 := hu_of hr
  refine ⟨_, (pss_one (ps_ret (pe_ix (ix_K (K := K) rfl) (pv 1) (pe_call (ok_L_draw T) (hr.mono (by decide)) rfl T.L_draw.g T.L_draw.F.kp (b_L_draw T) .nil px0 (pa_cons (pv 0) (pa_cons (pe_callB (cr_lenK (K := K) rfl) (by rfl) T.m_len PySem.boot_len (pa_cons (pv 1) pa_nil)) pa_nil))) (fun _ _ => rfl)))), fun ds M kk xx hl h => ?_⟩
  try dsimp only [cxOf]
  obtain ⟨s, l, n, v, xs, rfl, hS, hn, hv, hne, hl, hk⟩ := h
  have hp := List.length_pos_iff.mpr hne
  have sq : ∀ M, SqAt M v xs := fun M => by
    rcases hv with rfl | rfl
    · exact .lst
    · exact .tup
  walk_at "go"
  walk_at "callD"
  walk_at "go"
  refine XC.len (sq _) ?_
  walk_at "go"
  refine ⟨[], _, rfl, rfl, s, l, n, _, rfl, hS, hn, by omega, by omega, fun r M' h0 h1 hS' => ?_⟩
  obtain ⟨x, hx⟩ : ∃ x, xs[r.toNat]? = some x := ⟨_, List.getElem?_eq_getElem (show r.toNat < xs.length by omega)⟩
  have hat : L2.atI xs r = some x := at_nat (j := r.toNat) (by omega) hx
  have hm := List.mem_of_getElem? hx
  rcases hv with rfl | rfl
  · exact XR.ix_lst .lst hat (hk x _ hm hS')
  · exact XR.ix_tup hat (hk x _ hm hS')
end
end My

namespace My
open PySem L2 DL PyProof.Rows SX
local macro_rules | `(tactic| walk_at "go") => `(tactic| repeat (first
  | ((with_reducible refine idE ?_); first
    | ((with_reducible apply XE.var); · exact rfl)
    | (with_reducible first
      | refine XE.op ?_
      | refine XE.int ?_
      | refine XE.str ?_
      | refine XE.ite ?_
      | refine XE.cb ?_
      | refine XE.tup ?_
      | refine XE.bl ?_
      | refine XE.non ?_
      | refine XE.ty ?_
      | refine XE.un ?_
      | refine XE.andV ?_
      | refine XE.orV ?_
      | refine XE.notV ?_
      | refine XE.slice ?_
      | refine XE.chain ?_))
  | ((with_reducible refine idA ?_); with_reducible first
      | refine XA.nil ?_
      | refine XA.cons ?_)
  | ((with_reducible refine idR ?_); first
      | (with_reducible first
        | refine XR.add_int ?_
        | refine XR.eq_int ?_
        | refine XR.ne_int ?_
        | refine XR.i0 ?_
        | refine XR.b0 ?_
        | refine XR.isN ?_
        | refine XR.ntN ?_)
      | refine XR.ix_tup rfl ?_
      | refine XR.ix_lst (by first | exact LsAt.lst | exact LsAt.raw At.hd) rfl ?_)
  | ((with_reducible refine idS ?_); with_reducible first
      | refine XS.seq ?_
      | refine XS.asg ?_
      | refine XS.ret ?_
      | refine XS.ifs ?_
      | refine XS.next ?_
      | refine XS.drop ?_
      | refine XS.par ?_)
  | ((with_reducible refine idT ?_); with_reducible first
      | refine XT.tst ?_
      | refine XT.bool ?_
      | refine XT.and ?_
      | refine XT.or ?_
      | refine XT.not ?_)
  | with_reducible refine ex1 ?_
  | refine pickF rfl ?_
  | refine pickT rfl ?_
  | ((with_reducible refine idO ?_); with_reducible first
      | refine XO.none ?_
      | refine XO.some ?_)
  | ((with_reducible refine idGs ?_); with_reducible first
      | refine XGs.nil ?_
      | refine XGs.cons ?_)
  | ((with_reducible refine idG ?_); with_reducible first
      | refine XG.name (by simp) ?_
      | refine XG.tup rfl ?_)
  | with_reducible refine XC.abs ?_
  | with_reducible refine XU.neg ?_
  | refine ⟨_, _, rfl, ?_⟩
  | refine ⟨_, rfl, ?_⟩
  | refine ⟨show (_ : Nat) + 1 ≤ 16000000 by simp only [List.length_cons, List.length_nil] <;> decide, ?_⟩
  | dsimp only))
local macro_rules | `(tactic| walk_at "sp") => `(tactic| first | refine ⟨[], _, rfl, rfl, ?_⟩ | refine ⟨rfl, ?_⟩)

def spl_L_frac : PSp := fun ds k _ => ∃ (n d : Int) (b : Nat), ds = [.int n, .int d] ∧ d ≠ 0 ∧ B b d ∧ 0 < b ∧ b ≤ 9000 ∧ k (dQ (Rat.divInt n d))
theorem mo_L_frac : MonoP spl_L_frac := fun _ _ _ _ _ hk _ ⟨n, d, b, e, h1, h2, h3, h4, q⟩ => ⟨n, d, b, e, h1, h2, h3, h4, hk _ q⟩
def spl_L_less : PSp := fun ds k _ => ∃ (p q : Rat) (b : Nat), ds = [dQ p, dQ q] ∧ BQ b p ∧ BQ b q ∧ 0 < b ∧ b ≤ 4000 ∧ k (.bl (decide (p < q)))
theorem mo_L_less : MonoP spl_L_less := fun _ _ _ _ _ hk _ ⟨n, d, b, e, h1, h2, h3, h4, q⟩ => ⟨n, d, b, e, h1, h2, h3, h4, hk _ q⟩
/-- strictly ascending -/
def AscQ (qs : List Rat) : Prop := ∀ (i : Nat) a b, qs[i]? = some a → qs[i + 1]? = some b → a < b
def spl_L_in_order : PSp := fun ds k _ => ∃ (qs : List Rat) (b : Nat), ds = [.lst (qs.map dQ)] ∧ (∀ q ∈ qs, BQ b q) ∧ 0 < b ∧ b ≤ 4000 ∧ qs.length ≤ 1000000 ∧ ∀ rs : List Rat, AscQ rs → (∀ r ∈ rs, r ∈ qs) → (qs ≠ [] → rs ≠ []) → rs.length ≤ qs.length → (qs.Pairwise (· < ·) → rs = qs) → k (.lst (rs.map dQ))
theorem mo_L_in_order : MonoP spl_L_in_order := fun _ _ _ _ _ hk _ ⟨qs, b, e, h1, h2, h3, h4, q⟩ => ⟨qs, b, e, h1, h2, h3, h4, fun rs a c d f g => hk _ (q rs a c d f g)⟩
def sp_L_long : DSp := fun ds M k _ => ∃ (s l : Addr) (n : Nat), ds = [.raw s] ∧ IsSt s l n M ∧ n + 61 ≤ 1000000000 ∧ ∀ (v : Nat) M', v < 10 ^ 60 → IsSt s l (n + 61) M' → k (.int v) M'
theorem mo_L_long : MonoD sp_L_long := fun _ _ _ _ _ _ hk _ ⟨s, l, n, e, e2, h1, q⟩ => ⟨s, l, n, e, e2, h1, fun r M' a b => hk _ _ (q r M' a b)⟩
def sp_L_any_fraction : DSp := fun ds M k _ => ∃ (s l : Addr) (n : Nat), ds = [.raw s] ∧ IsSt s l n M ∧ n + 124 ≤ 1000000000 ∧ ∀ (q : Rat) M', Short q → IsSt s l (n + 124) M' → k (dQ q) M'
theorem mo_L_any_fraction : MonoD sp_L_any_fraction := fun _ _ _ _ _ _ hk _ ⟨s, l, n, e, e2, h1, q⟩ => ⟨s, l, n, e, e2, h1, fun r M' a b => hk _ _ (q r M' a b)⟩
def spl_L_fraction_text : PSp := fun ds k _ => ∃ q : Rat, ds = [dQ q] ∧ Short q ∧ k (.str (S (fracL q)))
theorem mo_L_fraction_text : MonoP spl_L_fraction_text := fun _ _ _ _ _ hk _ ⟨q, e, h, z⟩ => ⟨q, e, h, hk _ z⟩
def spl_L_knot_text : PSp := fun ds k _ => ∃ q : Kn, ds = [dKn q] ∧ Short q.1 ∧ Short q.2 ∧ k (.str (S (knotL q)))
theorem mo_L_knot_text : MonoP spl_L_knot_text := fun _ _ _ _ _ hk _ ⟨q, e, h, h2, z⟩ => ⟨q, e, h, h2, hk _ z⟩
def sp_L_knot_rows : DSp := fun ds M k _ => ∃ (s l : Addr) (n : Nat), ds = [.raw s] ∧ IsSt s l n M ∧ n + 10000 ≤ 1000000000 ∧ ∀ (ks : List Kn) M', Good ks → (∀ q ∈ ks, Short q.1 ∧ Short q.2) → IsSt s l (n + 10000) M' → k (.lst (ks.map dKn)) M'
theorem mo_L_knot_rows : MonoD sp_L_knot_rows := fun _ _ _ _ _ _ hk _ ⟨s, l, n, e, e2, h1, q⟩ => ⟨s, l, n, e, e2, h1, fun r M' a b c => hk _ _ (q r M' a b c)⟩
local macro_rules | `(tactic| walk_at "mo") => `(tactic| first | exact mo_L_draw | exact mo_L_mixed | exact mo_L_pick | exact mo_L_frac | exact mo_L_less | exact mo_L_in_order | exact mo_L_long | exact mo_L_any_fraction | exact mo_L_fraction_text)
local macro_rules | `(tactic| walk_at "callD") => `(tactic| (refine XE.call (by walk_at "mo") (fun _ => rfl) (dD := []) (fun _ => .nil) ?_))
local macro_rules | `(tactic| walk_at "call") => `(tactic| (refine XE.callP (by walk_at "mo") (fun _ => rfl) (dD := []) (fun _ => .nil) ?_))
theorem asc_next {rs : List Rat} (h : rs.Pairwise (· < ·)) {i : Nat} {a b : Rat} (ha : rs[i]? = some a) (hb : rs[i + 1]? = some b) : a < b := by
  obtain ⟨h1, rfl⟩ := List.getElem?_eq_some_iff.mp ha
  obtain ⟨h2, rfl⟩ := List.getElem?_eq_some_iff.mp hb
  exact List.pairwise_iff_getElem.mp h i (i + 1) h1 h2 (by omega)
theorem asc_ins {rs : List Rat} {t : Rat} {a : Nat} (h : rs.Pairwise (· < ·)) (h1 : ∀ x ∈ rs.take a, x < t) (h2 : ∀ x ∈ rs.drop a, t < x) : (rs.take a ++ [t] ++ rs.drop a).Pairwise (· < ·) := by
  rw [List.append_assoc, List.pairwise_append]
  refine ⟨h.sublist (List.take_sublist _ _), ?_, fun x hx y hy => ?_⟩
  · rw [List.singleton_append, List.pairwise_cons]
    exact ⟨h2, h.sublist (List.drop_sublist _ _)⟩
  · rcases List.mem_append.mp hy with hy | hy
    · rw [List.mem_singleton.mp hy]
      exact h1 x hx
    · have := h1 x hx
      have := h2 y hy
      grind
theorem asc_take {rs : List Rat} {t y : Rat} {a : Nat} (h : rs.Pairwise (· < ·)) (hy : rs[a]? = some y) (ht : y < t) : ∀ x ∈ rs.take (a + 1), x < t := fun x hx => by
  obtain ⟨j, hj⟩ := List.getElem?_of_mem hx
  obtain ⟨h2, rfl⟩ := List.getElem?_eq_some_iff.mp hj
  obtain ⟨h3, rfl⟩ := List.getElem?_eq_some_iff.mp hy
  rw [List.length_take] at h2
  rw [List.getElem_take]
  by_cases e : j = a
  · subst e
    exact ht
  · have := List.pairwise_iff_getElem.mp h j a (by omega) h3 (by omega)
    grind
theorem take_get1 {α : Type} {xs : List α} {i : Nat} {x : α} (h : xs[i]? = some x) : xs.take (i + 1) = xs.take i ++ [x] := by
  rw [List.take_add_one, h]
  rfl
section
variable {P : Program} {w : World} {K : PySem.W.Frag} {mg : Str → Option Value} {base : Heap}
theorem ok_L_frac (T : Txt K mg) : FnOk P w K mg base (L2.CX P w) 1 T.L_frac.a T.L_frac.fd ["n", "d"] (spD K 2 (pur (spl_L_frac))) := by
  refine fn_okP T.L_frac.F sc_L_frac rfl fun cdv A outer s H E hr => ?_
  have nd := sc_L_frac.nd
  have hu64 := hr.units
  have hu65 := hu65_of hr
  have hu1 := hu_of hr
  refine ⟨_, (pss_cons (ps_par (i := 2) (j := 3) rfl nd rfl rfl (by decide) rfl rfl (pa_cons (pe_callB cr_abs (by rfl) T.m_abs boot_abs (pa_cons (pv 0) pa_nil)) (pa_cons (pe_callB cr_abs (by rfl) T.m_abs boot_abs (pa_cons (pv 1) pa_nil)) pa_nil)) (by rfl))
      (pss_cons (ps_while (passes_of rfl) (pt_cmpR (op_neK (K := K) rfl hu64) (pv 3) pe_int (nomark _)) (pss_one (ps_par (i := 2) (j := 3) rfl nd rfl rfl (by decide) rfl rfl (pa_cons (pv 3) (pa_cons (pe_op op_modN (pv 2) (pv 3)) pa_nil)) (by rfl))))
      (pss_cons (ps_set (i := 2) nd rfl (by first | exact Or.inl rfl | exact Or.inr rfl) (pe_ifExp (pt_cmpR op_gt (pv 1) pe_int (nomark _)) (pv 2) (pe_op op_sub pe_int (pv 2))))
      (pss_one (ps_ret (pe_tup (pa_cons (pe_op op_fdivZ (pv 0) (pv 2)) (pa_cons (pe_op op_fdivZ (pv 1) (pv 2)) pa_nil)))))))), fun ds kk xx hl h => ?_⟩
  try dsimp only [cxOf]
  obtain ⟨n, d, b, rfl, hd, hB, hb0, hb1, hk⟩ := h
  have hg0 : (Int.gcd n d : Int) ≠ 0 := by
    have : Int.gcd n d ≠ 0 := fun z => hd (Int.gcd_eq_zero_iff.mp z).2
    omega
  have hgB : B b (Int.gcd n d : Int) := hB.le (by
    have h1 : (Int.gcd n d : Int) ∣ d := Int.gcd_dvd_right ..
    have h2 := Int.natAbs_dvd_natAbs.mpr h1
    exact Nat.le_of_dvd (by omega) h2)
  walk_at "go"
  refine XS.monoN (J := fun ds M => ds = [some (.int n), some (.int d), some (.int (Int.gcd n d : Int)), some (.int 0)] ∧ M = []) (XS.while (fun m ds M => ∃ x y : Nat, ds = [some (.int n), some (.int d), some (.int x), some (.int y)] ∧ Nat.gcd x y = Int.gcd n d ∧ m = y ∧ M = []) d.natAbs ⟨_, _, rfl, rfl, rfl, rfl⟩ ?_) ?_
  · rintro m _ M ⟨x, y, rfl, hg, rfl, rfl⟩
    walk_at "go"
    refine ⟨fun hb => ?_, fun hb => ?_⟩
    · have hy : m ≠ 0 := by simpa using hb
      walk_at "go"
      refine XR.i (by simpa using hy) ?_
      walk_at "go"
      refine ⟨x % m, Nat.mod_lt _ (by omega), m, x % m, ?_, ?_, rfl, rfl⟩
      · rw [Int.fmod_eq_emod_of_nonneg _ (by omega)]
        rfl
      · rw [Nat.gcd_comm, ← hg, Nat.gcd_comm x m]
        exact (Nat.gcd_rec m x).symm
    · have hy : m = 0 := by simpa using hb
      subst hy
      rw [Nat.gcd_zero_right] at hg
      rw [hg]
      exact ⟨rfl, rfl⟩
  rintro _ _ ⟨rfl, rfl⟩
  walk_at "go"
  refine ⟨fun hb => ?_, fun hb => ?_⟩
  · have hp := of_decide_eq_true hb
    walk_at "go"
    refine XR.i (B.divOk hgB hg0 hb0 hb1) ?_
    walk_at "go"
    refine XR.i (B.divOk hgB hg0 hb0 hb1) ?_
    walk_at "go"
    rw [new_pos hp] at hk
    exact hk
  · have hp := of_decide_eq_false hb
    walk_at "go"
    have e : (0 : Int) - (Int.gcd n d : Int) = -(Int.gcd n d : Int) := by omega
    rw [e]
    refine XR.i (B.divOk hgB.neg (by omega) hb0 hb1) ?_
    walk_at "go"
    refine XR.i (B.divOk hgB.neg (by omega) hb0 hb1) ?_
    walk_at "go"
    rw [new_neg (by omega)] at hk
    exact hk
theorem ok_L_less (T : Txt K mg) : FnOk P w K mg base (L2.CX P w) 1 T.L_less.a T.L_less.fd ["a", "b"] (spD K 2 (pur (spl_L_less))) := by
  refine fn_okP T.L_less.F sc_L_less rfl fun cdv A outer s H E hr => ?_
  have nd := sc_L_less.nd
  have hu64 := hr.units
  have hu65 := hu65_of hr
  have hu1 := hu_of hr
  refine ⟨_, (pss_one (ps_ret (pe_cmpR op_lt (pe_op op_mulW (pe_ix (ix_K (K := K) rfl) (pv 0) pe_int (fun _ _ => rfl)) (pe_ix (ix_K (K := K) rfl) (pv 1) pe_int (fun _ _ => rfl))) (pe_op op_mulW (pe_ix (ix_K (K := K) rfl) (pv 1) pe_int (fun _ _ => rfl)) (pe_ix (ix_K (K := K) rfl) (pv 0) pe_int (fun _ _ => rfl))) (nomark _)))), fun ds kk xx hl h => ?_⟩
  try dsimp only [cxOf]
  obtain ⟨p, q, b, rfl, hp, hq, hb0, hb1, hk⟩ := h
  walk_at "go"
  refine XR.i (hp.num.mulOk hq.den hb0 hb0 (by omega)) ?_
  walk_at "go"
  refine XR.i (hq.num.mulOk hp.den hb0 hb0 (by omega)) ?_
  walk_at "go"
  rw [den_lt]
  exact hk
theorem ok_L_in_order (T : Txt K mg) : FnOk P w K mg base (L2.CX P w) 2 T.L_in_order.a T.L_in_order.fd ["times"] (spD K 1 (pur (spl_L_in_order))) := by
  refine fn_okP T.L_in_order.F sc_L_in_order rfl fun cdv A outer s H E hr => ?_
  have nd := sc_L_in_order.nd
  have hu64 := hr.units
  have hu65 := hu65_of hr
  have hu1 := hu_of hr
  refine ⟨_, (pss_cons (ps_set (i := 1) nd rfl (by first | exact Or.inl rfl | exact Or.inr rfl) (pe_lst pa_nil))
      (pss_cons (ps_for (passes_of rfl) rfl (pi_K (K := K) rfl (pv 0)) (pg_name (i := 2) nd rfl (by first | exact Or.inl rfl | exact Or.inr rfl))
      (pss_cons (ps_set (i := 3) nd rfl (by first | exact Or.inl rfl | exact Or.inr rfl) (pe_callB (cr_lenK (K := K) rfl) (by rfl) T.m_len PySem.boot_len (pa_cons (pv 1) pa_nil)))
      (pss_cons (ps_while (passes_of rfl) (PW.pt (pw_and (pt_cmpR op_gt (pv 3) pe_int (nomark _)) (pw_and1 (pt_val (pe_call (ok_L_less T) (hr.mono (by decide)) rfl T.L_less.g T.L_less.F.kp (b_L_less T) .nil px0 (pa_cons (pv 2) (pa_cons (pe_ix (ix_K (K := K) rfl) (pv 1) (pe_op op_sub (pv 3) pe_int) (fun _ _ => rfl)) pa_nil))))))) (pss_one (ps_set (i := 3) nd rfl (by first | exact Or.inl rfl | exact Or.inr rfl) (pe_op op_sub (pv 3) pe_int))))
      (pss_one (ps_if (PW.pt (pw_or (pt_cmpR (op_eqK (K := K) rfl hu64) (pv 3) pe_int (nomark _)) (pw_or1 (pt_cmpR (op_neK (K := K) rfl hu64) (pe_ix (ix_K (K := K) rfl) (pv 1) (pe_op op_sub (pv 3) pe_int) (fun _ _ => rfl)) (pv 2) (nomark _)))))
      (pss_one (ps_expr (pe_bmK (K := K) rfl PySem.F.plainAttrs_list PySem.F.slot_list_insert PySem.F.type_list_insert mt_ins (pv 1) (pa_cons (pv 3) (pa_cons (pv 2) pa_nil)))))
      pss_nil)))))
      (pss_one (ps_ret (pv 1))))), fun ds kk xx hl h => ?_⟩
  try dsimp only [cxOf]
  obtain ⟨qs, b, rfl, hB, hb0, hb1, hl, hk⟩ := h
  refine XS.seq (XS.asg (XE.lstM ?_))
  walk_at "go"
  refine ⟨by decide, fun p hp => ?_⟩
  walk_at "go"
  refine XS.for [2] (XI.U ?_)
  walk_at "go"
  refine ⟨_, .lst, fun i ds M => ∃ (rs : List Rat) (y z : Option D), ds = [some (.lst (qs.map dQ)), some (.raw p), y, z] ∧ M = [(p, .lst (rs.map dQ))] ∧ rs.Pairwise (· < ·) ∧ (∀ r ∈ rs, r ∈ qs) ∧ (0 < i → rs ≠ []) ∧ rs.length ≤ i ∧ (qs.Pairwise (· < ·) → rs = qs.take i), ⟨[], _, _, rfl, rfl, .nil, by simp, by simp, by simp, fun _ => rfl⟩, ?_, ?_⟩
  · rintro i x _ M hx ⟨rs, y, z, rfl, rfl, hA, hI, hN, hL, hP⟩
    have hPt : qs.Pairwise (· < ·) → ∀ y ∈ rs, y < (qs[i]?).getD 0 := fun hq y hy => by
      rw [hP hq] at hy
      obtain ⟨j, hj⟩ := List.getElem?_of_mem hy
      obtain ⟨h2, rfl⟩ := List.getElem?_eq_some_iff.mp hj
      rw [List.length_take] at h2
      have h3 : i < qs.length := by rw [← List.length_map (f := dQ)]; exact (List.getElem?_eq_some_iff.mp hx).1
      rw [List.getElem_take, List.getElem?_eq_getElem h3]
      exact List.pairwise_iff_getElem.mp hq j i (by omega) h3 (by omega)
    obtain ⟨t, ht, rfl⟩ := map_get hx
    have htm := List.mem_of_getElem? ht
    have hi : i < qs.length := (List.getElem?_eq_some_iff.mp ht).1
    walk_at "go"
    refine XC.len (.raw .hd) ?_
    rw [List.length_map]
    walk_at "go"
    refine XS.monoN (J := fun ds M => ∃ a : Nat, ds = [some (.lst (qs.map dQ)), some (.raw p), some (dQ t), some (.int a)] ∧ M = [(p, .lst (rs.map dQ))] ∧ a ≤ rs.length ∧ (∀ x ∈ rs.drop a, t < x) ∧ ∀ y, 0 < a → rs[a - 1]? = some y → ¬ t < y)
      (XS.while (fun m ds M => ds = [some (.lst (qs.map dQ)), some (.raw p), some (dQ t), some (.int m)] ∧ M = [(p, .lst (rs.map dQ))] ∧ m ≤ rs.length ∧ (∀ x ∈ rs.drop m, t < x)) rs.length ⟨rfl, rfl, Nat.le_refl _, by simp⟩ ?_) ?_
    · rintro m _ M ⟨rfl, rfl, hm, hD⟩
      walk_at "go"
      refine ⟨fun hb => ?_, fun hb => ?_⟩
      · have hb := of_decide_eq_true hb
        obtain ⟨m, rfl⟩ : ∃ j, m = j + 1 := ⟨m - 1, by omega⟩
        obtain ⟨y, hy⟩ : ∃ y, rs[m]? = some y := ⟨_, List.getElem?_eq_getElem (show m < rs.length by omega)⟩
        have hym := List.mem_of_getElem? hy
        walk_at "go"
        walk_at "call"
        walk_at "go"
        refine XR.ix_lst (.raw .hd) (at_nat (j := m) (by omega) (get_map hy)) ?_
        walk_at "go"
        refine ⟨rfl, t, y, b, rfl, hB t htm, hB y (hI y hym), hb0, hb1, ?_⟩
        walk_at "go"
        refine ⟨fun hc => ?_, fun hc => ?_⟩
        · have hc := of_decide_eq_true hc
          walk_at "go"
          refine ⟨m, by omega, ?_, rfl, by omega, fun x hx => ?_⟩
          · have e : ((m + 1 : Nat) : Int) - 1 = (m : Int) := by omega
            rw [e]
            rfl
          · have hlt : m < rs.length := by omega
            rw [List.drop_eq_getElem_cons hlt] at hx
            rcases List.mem_cons.mp hx with rfl | hx
            · have : rs[m] = y := by
                have := List.getElem?_eq_getElem hlt
                rw [hy] at this
                exact (Option.some.inj this).symm
              rw [this]
              exact hc
            · exact hD x hx
        · have hc := of_decide_eq_false hc
          refine ⟨m + 1, rfl, rfl, hm, hD, fun z _ hz => ?_⟩
          have e : m + 1 - 1 = m := by omega
          rw [e, hy] at hz
          cases hz
          exact hc
      · have hb := of_decide_eq_false hb
        refine pickF rfl ?_
        exact ⟨m, rfl, rfl, hm, hD, fun _ h => by omega⟩
    rintro _ _ ⟨a, rfl, rfl, ha, hD, hT⟩
    walk_at "go"
    refine ⟨fun hb => ?_, fun hb => ?_⟩
    · have hb := of_decide_eq_true hb
      have h0 : a = 0 := by omega
      have hlt : ∀ x ∈ rs.take a, x < t := by rw [h0]; simp
      walk_at "go"
      refine XE.bm ?_
      walk_at "go"
      refine ⟨ty_lst (.raw .hd), ?_⟩
      walk_at "go"
      refine XM.insert .hd (by rw [List.length_map]; omega) (by omega) (by omega) ?_
      refine ⟨rs.take a ++ [t] ++ rs.drop a, _, _, rfl, ?_, asc_ins hA hlt hD, fun r hr => ?_, fun _ z => ?_, ?_, fun hq => ?_⟩
      · rw [Int.toNat_natCast, List.map_append, List.map_append, List.map_take, List.map_drop]
        rfl
      · rcases List.mem_append.mp hr with hr | hr
        · rcases List.mem_append.mp hr with hr | hr
          · exact hI r (List.mem_of_mem_take hr)
          · rw [List.mem_singleton.mp hr]
            exact htm
        · exact hI r (List.mem_of_mem_drop hr)
      · simp at z
      · rw [List.length_append, List.length_append, List.length_take, List.length_drop]
        show _ + 1 + _ ≤ _
        omega
      · have ht9 := hPt hq
        rw [ht] at ht9
        have hd9 : rs.drop a = [] := by
          cases e9 : rs.drop a with
          | nil => rfl
          | cons u v =>
            have h8 := hD u (by rw [e9]; exact List.mem_cons_self ..)
            have h9 := ht9 u (List.mem_of_mem_drop (by rw [e9]; exact List.mem_cons_self ..))
            simp only [Option.getD_some] at h9
            grind
        have ht8 : rs.take a = rs := by
          have := List.take_append_drop a rs
          rw [hd9, List.append_nil] at this
          exact this
        rw [hd9, ht8, List.append_nil, hP hq, ← take_get1 ht]
    · have hb := of_decide_eq_false hb
      obtain ⟨y, hy⟩ : ∃ y, rs[a - 1]? = some y := ⟨_, List.getElem?_eq_getElem (show a - 1 < rs.length by omega)⟩
      have hny := hT y (by omega) hy
      walk_at "go"
      refine XR.ix_lst (.raw .hd) (at_nat (j := a - 1) (by omega) (get_map hy)) ?_
      walk_at "go"
      refine XR.ne_dQ ?_
      walk_at "go"
      refine ⟨fun hc => ?_, fun hc => ?_⟩
      · have hc : ¬ y = t := by simpa using hc
        have hlt : ∀ x ∈ rs.take a, x < t := by
          have := asc_take hA hy (t := t) (by grind)
          have e : a - 1 + 1 = a := by omega
          rw [e] at this
          exact this
        walk_at "go"
        refine XE.bm ?_
        walk_at "go"
        refine ⟨ty_lst (.raw .hd), ?_⟩
        walk_at "go"
        refine XM.insert .hd (by rw [List.length_map]; omega) (by omega) (by omega) ?_
        refine ⟨rs.take a ++ [t] ++ rs.drop a, _, _, rfl, ?_, asc_ins hA hlt hD, fun r hr => ?_, fun _ z => ?_, ?_, fun hq => ?_⟩
        · rw [Int.toNat_natCast, List.map_append, List.map_append, List.map_take, List.map_drop]
          rfl
        · rcases List.mem_append.mp hr with hr | hr
          · rcases List.mem_append.mp hr with hr | hr
            · exact hI r (List.mem_of_mem_take hr)
            · rw [List.mem_singleton.mp hr]
              exact htm
          · exact hI r (List.mem_of_mem_drop hr)
        · simp at z
        · rw [List.length_append, List.length_append, List.length_take, List.length_drop]
          show _ + 1 + _ ≤ _
          omega
        · have ht9 := hPt hq
          rw [ht] at ht9
          have hd9 : rs.drop a = [] := by
            cases e9 : rs.drop a with
            | nil => rfl
            | cons u v =>
              have h8 := hD u (by rw [e9]; exact List.mem_cons_self ..)
              have h9 := ht9 u (List.mem_of_mem_drop (by rw [e9]; exact List.mem_cons_self ..))
              simp only [Option.getD_some] at h9
              grind
          have ht8 : rs.take a = rs := by
            have := List.take_append_drop a rs
            rw [hd9, List.append_nil] at this
            exact this
          rw [hd9, ht8, List.append_nil, hP hq, ← take_get1 ht]
      · walk_at "go"
        refine ⟨rs, _, _, rfl, rfl, hA, hI, fun _ z => ?_, by omega, fun hq => ?_⟩
        · rw [z] at hy
          simp at hy
        · have hc : y = t := by simpa using hc
          have h9 := hPt hq y (List.mem_of_getElem? hy)
          rw [ht, hc] at h9
          simp only [Option.getD_some] at h9
          grind
  · rintro _ M ⟨rs, y, z, rfl, rfl, hA, hI, hN, hL, hP⟩
    refine XS.ret ?_
    refine DL.XE.varF (i := 1) (ds := [some (.lst (qs.map dQ)), some (.raw p), y, z]) (p := p) (xs := rs.map dQ) rfl .hd ?_
    rw [List.length_map] at hN hL hP
    rw [List.take_length] at hP
    exact hk rs (fun i a b ha hb => asc_next hA ha hb) hI (fun h => hN (List.length_pos_iff.mpr h)) hL hP
theorem ok_L_long (T : Txt K mg) : FnOk P w K mg base (L2.CX P w) 4 T.L_long.a T.L_long.fd ["state"] (spD K 1 (sp_L_long)) := by
  refine fn_okD T.L_long.F sc_L_long rfl fun cdv A outer s H E hr => ?_
  have nd := sc_L_long.nd
  have hu64 := hr.units
  have hu65 := hu65_of hr
  have hu1 := hu_of hr
  refine ⟨_, (pss_cons (ps_set (i := 1) nd rfl (by first | exact Or.inl rfl | exact Or.inr rfl) pe_int)
      (pss_cons (ps_for (passes_of rfl) rfl (pi_range1 rfl T.m_range (pa_cons (pe_call (ok_L_pick T) (hr.mono (by decide)) rfl T.L_pick.g T.L_pick.F.kp (b_L_pick T) .nil px0 (pa_cons (pv 0) (pa_cons (pe_lst (pa_cons pe_int (pa_cons pe_int (pa_cons pe_int (pa_cons pe_int (pa_cons pe_int (pa_cons pe_int (pa_cons pe_int pa_nil)))))))) pa_nil))) pa_nil)) (pg_name (i := 2) nd rfl (by first | exact Or.inl rfl | exact Or.inr rfl))
      (pss_one (ps_set (i := 1) nd rfl (by first | exact Or.inl rfl | exact Or.inr rfl) (pe_op (op_addK (K := K) rfl) (pe_op op_mulW (pv 1) pe_int) (pe_call (ok_L_draw T) (hr.mono (by decide)) rfl T.L_draw.g T.L_draw.F.kp (b_L_draw T) .nil px0 (pa_cons (pv 0) (pa_cons pe_int pa_nil)))))))
      (pss_one (ps_ret (pv 1))))), fun ds M kk xx hl h => ?_⟩
  try dsimp only [cxOf]
  obtain ⟨s, l, n, rfl, hS, hn, hk⟩ := h
  walk_at "go"
  refine XS.for [2] (XI.rng1 ?_)
  walk_at "go"
  walk_at "callD"
  refine XA.cons (XE.var rfl (XA.cons (XE.lstF ?_)))
  walk_at "go"
  refine ⟨[], _, rfl, rfl, s, l, n, _, _, rfl, hS, by omega, .inl rfl, by simp, by decide, fun x M' hx hS1 => ?_⟩
  obtain ⟨j, rfl, hj, hj2⟩ : ∃ j : Nat, x = .int (j : Int) ∧ 1 ≤ j ∧ j ≤ 60 := by
    simp only [List.mem_cons, List.not_mem_nil, or_false] at hx
    rcases hx with rfl | rfl | rfl | rfl | rfl | rfl | rfl
    · exact ⟨1, rfl, by decide, by decide⟩
    · exact ⟨1, rfl, by decide, by decide⟩
    · exact ⟨1, rfl, by decide, by decide⟩
    · exact ⟨2, rfl, by decide, by decide⟩
    · exact ⟨5, rfl, by decide, by decide⟩
    · exact ⟨20, rfl, by decide, by decide⟩
    · exact ⟨60, rfl, by decide, by decide⟩
  walk_at "go"
  refine ⟨by omega, by omega, fun i ds M => ∃ (f : Nat) (z : Option D), ds = [some (.raw s), some (.int (f : Int)), z] ∧ IsSt s l (n + 1 + i) M ∧ f < 10 ^ i, ⟨0, _, rfl, hS1, by decide⟩, ?_, ?_⟩
  · rintro i x _ M hx ⟨f, z, rfl, hS2, hf⟩
    rw [rngD_get] at hx
    split at hx
    · rename_i hi
      cases hx
      have hf2 : (10 : Nat) ^ i ≤ 10 ^ 60 := Nat.pow_le_pow_right (by decide) (by omega)
      have hf3 : (10 : Nat) ^ 60 < 2 ^ 200 := by decide
      walk_at "go"
      refine XR.i (wide_mul (a := 200) (b := 4) (by rw [Int.natAbs_natCast]; omega) (by decide) (by decide) (by decide) (by decide)) ?_
      walk_at "callD"
      walk_at "go"
      refine ⟨[], _, rfl, rfl, s, l, _, _, rfl, hS2, by omega, by decide, by decide, fun r M' h0 h1 hS3 => ?_⟩
      walk_at "go"
      refine ⟨f * 10 + r.toNat, some (.int (0 + (i : Nat))), ?_, hS3, ?_⟩
      · have e : ((f * 10 + r.toNat : Nat) : Int) = (f : Int) * 10 + r := by omega
        rw [e]
        rfl
      · rw [Nat.pow_succ]
        omega
    · cases hx
  · rintro _ M ⟨f, z, rfl, hS2, hf⟩
    rw [rngD_len] at hS2 hf
    have hf2 : (10 : Nat) ^ (j : Int).toNat ≤ 10 ^ 60 := Nat.pow_le_pow_right (by decide) (by omega)
    walk_at "go"
    exact hk f M (by omega) (hS2.more (by omega) hn)
theorem ok_L_any_fraction (T : Txt K mg) : FnOk P w K mg base (L2.CX P w) 5 T.L_any_fraction.a T.L_any_fraction.fd ["state"] (spD K 1 (sp_L_any_fraction)) := by
  refine fn_okD T.L_any_fraction.F sc_L_any_fraction rfl fun cdv A outer s H E hr => ?_
  have nd := sc_L_any_fraction.nd
  have hu64 := hr.units
  have hu65 := hu65_of hr
  have hu1 := hu_of hr
  refine ⟨_, (pss_cons (ps_set (i := 1) nd rfl (by first | exact Or.inl rfl | exact Or.inr rfl) (pe_op op_mulW (pe_call (ok_L_long T) (hr.mono (by decide)) rfl T.L_long.g T.L_long.F.kp (b_L_long T) .nil px0 (pa_cons (pv 0) pa_nil)) (pe_call (ok_L_pick T) (hr.mono (by decide)) rfl T.L_pick.g T.L_pick.F.kp (b_L_pick T) .nil px0 (pa_cons (pv 0) (pa_cons (pe_lst (pa_cons pe_int (pa_cons pe_int (pa_cons (pe_un un_neg pe_int) pa_nil)))) pa_nil)))))
      (pss_one (ps_ret (pe_call (ok_L_frac T) (hr.mono (by decide)) rfl T.L_frac.g T.L_frac.F.kp (b_L_frac T) .nil px0 (pa_cons (pv 1) (pa_cons (pe_callB (cr_max2 rfl) (by rfl) T.m_max boot_max (pa_cons pe_int (pa_cons (pe_call (ok_L_pick T) (hr.mono (by decide)) rfl T.L_pick.g T.L_pick.F.kp (b_L_pick T) .nil px0 (pa_cons (pv 0) (pa_cons (pe_lst (pa_cons pe_int (pa_cons pe_int (pa_cons (pe_call (ok_L_long T) (hr.mono (by decide)) rfl T.L_long.g T.L_long.F.kp (b_L_long T) .nil px0 (pa_cons (pv 0) pa_nil)) pa_nil)))) pa_nil))) pa_nil))) pa_nil)))))), fun ds M kk xx hl h => ?_⟩
  try dsimp only [cxOf]
  obtain ⟨s, l, n, rfl, hS, hn, hk⟩ := h
  have hf3 : (10 : Nat) ^ 60 < 2 ^ 200 := by decide
  walk_at "go"
  walk_at "callD"
  walk_at "go"
  refine ⟨[], _, rfl, rfl, s, l, n, rfl, hS, by omega, fun v M1 hv hS1 => ?_⟩
  walk_at "callD"
  refine XA.cons (XE.var rfl (XA.cons (XE.lstF ?_)))
  walk_at "go"
  refine ⟨rfl, s, l, _, _, _, rfl, hS1, by omega, .inl rfl, by simp, by decide, fun x M2 hx hS2 => ?_⟩
  obtain ⟨z, rfl, hz⟩ : ∃ z : Int, x = .int z ∧ (z = 1 ∨ z = -1) := by
    simp only [List.mem_cons, List.not_mem_nil, or_false] at hx
    rcases hx with rfl | rfl | rfl
    · exact ⟨1, rfl, .inl rfl⟩
    · exact ⟨1, rfl, .inl rfl⟩
    · exact ⟨-1, rfl, .inr rfl⟩
  refine XR.i (wide_mul (a := 200) (b := 4) (by rw [Int.natAbs_natCast]; omega) (by rcases hz with rfl | rfl <;> decide) (by decide) (by decide) (by decide)) ?_
  walk_at "go"
  walk_at "call"
  walk_at "go"
  walk_at "callD"
  refine XA.cons (XE.var rfl (XA.cons (XE.lstF ?_)))
  walk_at "go"
  walk_at "callD"
  walk_at "go"
  refine ⟨rfl, s, l, _, rfl, hS2, by omega, fun u M3 hu hS3 => ?_⟩
  walk_at "go"
  refine ⟨rfl, s, l, _, _, _, rfl, hS3, by omega, .inl rfl, by simp, by show 3 ≤ 1000000; decide, fun x M4 hx hS4 => ?_⟩
  obtain ⟨d, rfl, hd⟩ : ∃ d : Nat, x = .int (d : Int) ∧ d < 10 ^ 60 := by
    simp only [List.mem_cons, List.not_mem_nil, or_false] at hx
    rcases hx with rfl | rfl | rfl
    · exact ⟨1, rfl, by decide⟩
    · exact ⟨1, rfl, by decide⟩
    · exact ⟨u, rfl, hu⟩
  walk_at "go"
  refine XC.max2 ?_
  walk_at "go"
  have hm : (1 : Int) ≤ max 1 (d : Int) ∧ (max 1 (d : Int)).natAbs < 10 ^ 60 := by omega
  refine ⟨rfl, (v : Int) * z, max 1 (d : Int), 200, rfl, by omega, ?_, by decide, by decide, ?_⟩
  · show (max 1 (d : Int)).natAbs < 2 ^ 200
    omega
  refine hk _ M4 ⟨?_, ?_⟩ (hS4.more (by omega) hn)
  · refine Nat.lt_of_le_of_lt (divInt_num_abs _ _) ?_
    rw [Int.natAbs_mul, Int.natAbs_natCast]
    rcases hz with rfl | rfl
    · simpa using hv
    · simpa using hv
  · exact Nat.lt_of_le_of_lt (divInt_den_le _ _ (by omega)) hm.2
theorem ok_L_fraction_text (T : Txt K mg) : FnOk P w K mg base (L2.CX P w) 1 T.L_fraction_text.a T.L_fraction_text.fd ["x"] (spD K 1 (pur (spl_L_fraction_text))) := by
  refine fn_okP T.L_fraction_text.F sc_L_fraction_text rfl fun cdv A outer s H E hr => ?_
  have nd := sc_L_fraction_text.nd
  have hu64 := hr.units
  have hu65 := hu65_of hr
  have hu1 := hu_of hr
  refine ⟨_, (pss_one (ps_ret (pe_ifExp (pt_cmpR (op_eqK (K := K) rfl hu64) (pe_ix (ix_K (K := K) rfl) (pv 0) pe_int (fun _ _ => rfl)) pe_int (nomark _)) (pe_callTy cr_strI (by rfl) T.m_str boot_str (pa_cons (pe_ix (ix_K (K := K) rfl) (pv 0) pe_int (fun _ _ => rfl)) pa_nil)) (pe_op (op_addK (K := K) rfl) (pe_op (op_addK (K := K) rfl) (pe_callTy cr_strI (by rfl) T.m_str boot_str (pa_cons (pe_ix (ix_K (K := K) rfl) (pv 0) pe_int (fun _ _ => rfl)) pa_nil)) pe_str) (pe_callTy cr_strI (by rfl) T.m_str boot_str (pa_cons (pe_ix (ix_K (K := K) rfl) (pv 0) pe_int (fun _ _ => rfl)) pa_nil)))))), fun ds kk xx hl h => ?_⟩
  try dsimp only [cxOf]
  obtain ⟨q, rfl, hS, hk⟩ := h
  have hB := hS.B
  have h1 : q.num.natAbs.log2 < 1920 := Nat.lt_of_lt_of_le (hB.num.log (by decide)) (by decide)
  have h2 : (q.den : Int).natAbs.log2 < 1920 := Nat.lt_of_lt_of_le (hB.den.log (by decide)) (by decide)
  have hl := fracL_len hS
  walk_at "go"
  refine ⟨fun hb => ?_, fun hb => ?_⟩
  · walk_at "go"
    refine XC.strI h1 ?_
    rw [toString_S]
    have e : fracL q = intL q.num := if_pos (by have := of_decide_eq_true hb; omega)
    rw [e] at hk
    exact hk
  · have e : fracL q = intL q.num ++ 47 :: TL.numL q.den := if_neg (by have := of_decide_eq_false hb; omega)
    rw [e] at hk hl
    rw [List.length_append, List.length_cons] at hl
    have t2 : Str.ofString (toString (q.den : Int)) = S (TL.numL q.den) := SX.num_S q.den
    walk_at "go"
    refine XC.strI h1 ?_
    walk_at "go"
    refine XR.add_str ?_ ?_
    · rw [lit_slash, toString_S]
      exact Nat.le_trans (Nat.add_le_add (Nat.le_of_eq (SX.S_len _)) (Nat.le_of_eq (SX.S_len _))) (by simp only [List.length_cons, List.length_nil]; omega)
    rw [lit_slash, toString_S, SX.S_cat (intL q.num) [47]]
    walk_at "go"
    refine XC.strI h2 ?_
    rw [t2]
    refine XR.add_str ?_ ?_
    · exact Nat.le_trans (Nat.add_le_add (Nat.le_of_eq (SX.S_len _)) (Nat.le_of_eq (SX.S_len _))) (by simp only [List.length_append, List.length_cons, List.length_nil]; omega)
    rw [SX.S_cat (intL q.num ++ [47]) (TL.numL q.den), List.append_assoc]
    exact hk
theorem ok_L_knot_text (T : Txt K mg) : FnOk P w K mg base (L2.CX P w) 2 T.L_knot_text.a T.L_knot_text.fd ["knot"] (spD K 1 (pur (spl_L_knot_text))) := by
  refine fn_okP T.L_knot_text.F sc_L_knot_text rfl fun cdv A outer s H E hr => ?_
  have nd := sc_L_knot_text.nd
  have hu64 := hr.units
  have hu65 := hu65_of hr
  have hu1 := hu_of hr
  refine ⟨_, (pss_one (ps_ret (pe_op (op_addK (K := K) rfl) (pe_op (op_addK (K := K) rfl) (pe_call (ok_L_fraction_text T) (hr.mono (by decide)) rfl T.L_fraction_text.g T.L_fraction_text.F.kp (b_L_fraction_text T) .nil px0 (pa_cons (pe_ix (ix_K (K := K) rfl) (pv 0) pe_int (fun _ _ => rfl)) pa_nil)) pe_str) (pe_call (ok_L_fraction_text T) (hr.mono (by decide)) rfl T.L_fraction_text.g T.L_fraction_text.F.kp (b_L_fraction_text T) .nil px0 (pa_cons (pe_ix (ix_K (K := K) rfl) (pv 0) pe_int (fun _ _ => rfl)) pa_nil))))), fun ds kk xx hl h => ?_⟩
  try dsimp only [cxOf]
  obtain ⟨q, rfl, h1, h2, hk⟩ := h
  have l1 := fracL_len h1
  have l2 := fracL_len h2
  walk_at "go"
  walk_at "call"
  walk_at "go"
  refine ⟨rfl, q.1, rfl, h1, ?_⟩
  walk_at "go"
  refine XR.add_str ?_ ?_
  · rw [lit_colon]
    exact Nat.le_trans (Nat.add_le_add (Nat.le_of_eq (SX.S_len _)) (Nat.le_of_eq (SX.S_len _))) (by simp only [List.length_cons, List.length_nil]; omega)
  rw [lit_colon, SX.S_cat (fracL q.1) [58]]
  walk_at "call"
  walk_at "go"
  refine ⟨rfl, q.2, rfl, h2, ?_⟩
  refine XR.add_str ?_ ?_
  · exact Nat.le_trans (Nat.add_le_add (Nat.le_of_eq (SX.S_len _)) (Nat.le_of_eq (SX.S_len _))) (by simp only [List.length_append, List.length_cons, List.length_nil]; omega)
  rw [SX.S_cat (fracL q.1 ++ [58]) (fracL q.2), List.append_assoc]
  exact hk
end
end My

namespace My
open PySem L2 DL PyProof.Rows SX
local macro_rules | `(tactic| walk_at "go") => `(tactic| repeat (first
  | ((with_reducible refine idE ?_); first
    | ((with_reducible apply XE.var); · exact rfl)
    | (with_reducible first
      | refine XE.op ?_
      | refine XE.int ?_
      | refine XE.str ?_
      | refine XE.ite ?_
      | refine XE.cb ?_
      | refine XE.tup ?_
      | refine XE.bl ?_
      | refine XE.non ?_
      | refine XE.ty ?_
      | refine XE.un ?_
      | refine XE.andV ?_
      | refine XE.orV ?_
      | refine XE.notV ?_
      | refine XE.slice ?_
      | refine XE.chain ?_))
  | ((with_reducible refine idA ?_); with_reducible first
      | refine XA.nil ?_
      | refine XA.cons ?_)
  | ((with_reducible refine idR ?_); first
      | (with_reducible first
        | refine XR.add_int ?_
        | refine XR.eq_int ?_
        | refine XR.ne_int ?_
        | refine XR.i0 ?_
        | refine XR.b0 ?_
        | refine XR.isN ?_
        | refine XR.ntN ?_)
      | refine XR.ix_tup rfl ?_
      | refine XR.ix_lst (by first | exact LsAt.lst | exact LsAt.raw At.hd) rfl ?_)
  | ((with_reducible refine idS ?_); with_reducible first
      | refine XS.seq ?_
      | refine XS.asg ?_
      | refine XS.ret ?_
      | refine XS.ifs ?_
      | refine XS.next ?_
      | refine XS.drop ?_
      | refine XS.par ?_)
  | ((with_reducible refine idT ?_); with_reducible first
      | refine XT.tst ?_
      | refine XT.bool ?_
      | refine XT.and ?_
      | refine XT.or ?_
      | refine XT.not ?_)
  | with_reducible refine ex1 ?_
  | refine pickF rfl ?_
  | refine pickT rfl ?_
  | ((with_reducible refine idO ?_); with_reducible first
      | refine XO.none ?_
      | refine XO.some ?_)
  | ((with_reducible refine idGs ?_); with_reducible first
      | refine XGs.nil ?_
      | refine XGs.cons ?_)
  | ((with_reducible refine idG ?_); with_reducible first
      | refine XG.name (by simp) ?_
      | refine XG.tup rfl ?_)
  | with_reducible refine XC.abs ?_
  | with_reducible refine XU.neg ?_
  | refine ⟨_, _, rfl, ?_⟩
  | refine ⟨_, rfl, ?_⟩
  | refine ⟨show (_ : Nat) + 1 ≤ 16000000 by simp only [List.length_cons, List.length_nil] <;> decide, ?_⟩
  | dsimp only))
local macro_rules | `(tactic| walk_at "sp") => `(tactic| first | refine ⟨[], _, rfl, rfl, ?_⟩ | refine ⟨rfl, ?_⟩)

def spl_L_number : PSp := fun ds k _ => ∃ l : List Nat, ds = [.str (S l)] ∧ l.length ≤ 1000000 ∧ Uni l ∧ k (dO dN (DL.numOf l))
theorem mo_L_number : MonoP spl_L_number := fun _ _ _ _ _ hk _ ⟨q, e, h, h2, z⟩ => ⟨q, e, h, h2, hk _ z⟩
def spl_L_fraction : PSp := fun ds k _ => ∃ l : List Nat, ds = [.str (S l)] ∧ l.length ≤ 1000000 ∧ Uni l ∧ k (dO dQ (fracOf l))
theorem mo_L_fraction : MonoP spl_L_fraction := fun _ _ _ _ _ hk _ ⟨q, e, h, h2, z⟩ => ⟨q, e, h, h2, hk _ z⟩
theorem digit_at {c : Nat} (h : 48 ≤ c ∧ c ≤ 57) : ∃ rest, Builtin.Str.occurrences lDigits (S [c]) 0 lDigits.length 1 = (c - 48) :: rest := by
  obtain ⟨h1, h2⟩ := h
  have : c = 48 ∨ c = 49 ∨ c = 50 ∨ c = 51 ∨ c = 52 ∨ c = 53 ∨ c = 54 ∨ c = 55 ∨ c = 56 ∨ c = 57 := by omega
  rcases this with rfl | rfl | rfl | rfl | rfl | rfl | rfl | rfl | rfl | rfl <;> exact ⟨[], by decide +kernel⟩
theorem val_step (l : List Nat) (c : Nat) : NumText.digitsVal (l ++ [c]) = NumText.digitsVal l * 10 + (c - 48) := by
  unfold NumText.digitsVal
  rw [List.foldl_append]
  rfl
local macro_rules | `(tactic| walk_at "mo") => `(tactic| first | exact mo_L_number | exact mo_L_fraction | exact mo_L_frac)
local macro_rules | `(tactic| walk_at "call") => `(tactic| (refine XE.callP (by walk_at "mo") (fun _ => rfl) (dD := []) (fun _ => .nil) ?_))
section
variable {P : Program} {w : World} {K : PySem.W.Frag} {mg : Str → Option Value} {base : Heap}
theorem ok_L_number (T : Txt K mg) : FnOk P w K mg base (L2.CX P w) 1 T.L_number.a T.L_number.fd ["text"] (spD K 1 (pur (spl_L_number))) := by
  refine fn_okP T.L_number.F sc_L_number rfl fun cdv A outer s H E hr => ?_
  have nd := sc_L_number.nd
  have hu64 := hr.units
  have hu65 := hu65_of hr
  have hu1 := hu_of hr
  refine ⟨_, (pss_cons (ps_if (PW.pt (pw_or (pt_not (pt_chain op_le op_le pe_int (pe_callB (cr_lenK (K := K) rfl) (by rfl) T.m_len PySem.boot_len (pa_cons (pv 0) pa_nil)) pe_int)) (pw_or1 (pt_cmpR (op_neK (K := K) rfl hu64) (pe_lc (own := [("sign", 2)]) (g := gName 2) (by rfl) nd (pi_str (pv 0)) (blkOk_by (N := N_L_number) (sc := defScope s_L_number) (by decide +kernel)) (fun _ _ _ _ _ => (pg_name (i := 2) nd rfl (by first | exact Or.inl rfl | exact Or.inr rfl))) (fun _ _ _ _ _ => (pts_one (pt_cmpR (op_niK (K := K) rfl hu65) (pv 2) pe_str (by rfl)))) (fun _ _ _ _ _ => (pv 2))) (pe_lst pa_nil) (nomark _)))))
      (pss_one (ps_ret pe_non))
      pss_nil)
      (pss_cons (ps_set (i := 1) nd rfl (by first | exact Or.inl rfl | exact Or.inr rfl) pe_int)
      (pss_cons (ps_for (passes_of rfl) rfl (pi_str (pv 0)) (pg_name (i := 2) nd rfl (by first | exact Or.inl rfl | exact Or.inr rfl))
      (pss_one (ps_set (i := 1) nd rfl (by first | exact Or.inl rfl | exact Or.inr rfl) (pe_op (op_addK (K := K) rfl) (pe_op op_mulW (pv 1) pe_int) (pe_bmK (K := K) rfl PySem.F.plainAttrs_str PySem.F.slot_str_index PySem.F.type_str_index mt_sindex pe_str (pa_cons (pv 2) pa_nil))))))
      (pss_one (ps_ret (pe_ifExp (PW.pt (pw_or (pt_cmpR (op_eqK (K := K) rfl hu64) (pe_callB (cr_lenK (K := K) rfl) (by rfl) T.m_len PySem.boot_len (pa_cons (pv 0) pa_nil)) pe_int (nomark _)) (pw_or1 (pt_cmpR (op_neK (K := K) rfl hu64) (pe_ix (ix_K (K := K) rfl) (pv 0) pe_int (fun _ _ => rfl)) pe_str (nomark _))))) (pv 1) pe_non)))))), fun ds kk xx hl h => ?_⟩
  try dsimp only [cxOf]
  obtain ⟨l, rfl, hl, hu, hk⟩ := h
  walk_at "go"
  refine XC.len_str (lenS (by omega)) ?_
  have hlen : (S l).length = l.length := SX.S_len l
  rw [hlen]
  walk_at "go"
  refine ⟨fun hb => ?_, fun hb => ?_⟩
  rotate_left
  · walk_at "go"
    rw [numOf_no (fun z => by have := of_decide_eq_false hb; omega)] at hk
    exact hk
  walk_at "go"
  refine ⟨fun hb2 => ?_, fun hb2 => ?_⟩
  · walk_at "go"
    have hb2 : decide ((l.length : Int) ≤ 60) = false := by simpa using hb2
    rw [numOf_no (fun z => by have := of_decide_eq_false hb2; omega)] at hk
    exact hk
  have hb2 : decide ((l.length : Int) ≤ 60) = true := by simpa using hb2
  have l1 := of_decide_eq_true hb
  have l2 := of_decide_eq_true hb2
  walk_at "go"
  refine XE.lcE (fun c => D.str ⟨#[c]⟩) badC chr_inj (XI.str ?_)
  walk_at "go"
  refine ⟨by omega, fun c hc => ?_, ?_⟩
  · walk_at "go"
    refine XR.ni_sign ?_
    walk_at "go"
    refine ⟨fun hc => ?_, fun hc => ?_⟩
    · walk_at "go"
      have hc : ¬ c ∈ lDigits.cps.toList := by simpa [lDigits] using hc
      exact ⟨if_neg hc, rfl⟩
    · have hc : c ∈ lDigits.cps.toList := by simpa [lDigits] using hc
      exact ⟨if_pos hc, rfl⟩
  refine XE.lstF ?_
  walk_at "go"
  refine ⟨by decide, ?_⟩
  refine XR.ne_nil .self (bad_ok hu) (by decide) .self ?_
  rw [bad_nil]
  walk_at "go"
  refine ⟨fun hd => ?_, fun hd => ?_⟩
  · have hd : digs l = false := by simpa using hd
    walk_at "go"
    rw [numOf_no (fun z => by have := z.2.2; rw [hd] at this; cases this)] at hk
    exact hk
  have hd : digs l = true := by simpa using hd
  have hN : 1 ≤ l.length ∧ l.length ≤ 60 ∧ digs l = true := ⟨by omega, by omega, hd⟩
  walk_at "go"
  refine XS.for [2] (XI.str ?_)
  walk_at "go"
  refine ⟨fun i ds M => (∃ y, ds = [some (.str (S l)), some (.int (NumText.digitsVal (l.take i) : Nat)), y]) ∧ M = [], ⟨⟨_, rfl⟩, rfl⟩, ?_, ?_⟩
  · rintro i x _ M hx ⟨⟨y, rfl⟩, rfl⟩
    rw [List.getElem?_map, Option.map_eq_some_iff] at hx
    obtain ⟨c, hc, rfl⟩ := hx
    have hc : l[i]? = some c := hc
    have hcd : 48 ≤ c ∧ c ≤ 57 := by
      have := List.all_eq_true.mp hd c (List.mem_of_getElem? hc)
      simpa using this
    have hdt : digs (l.take i) = true := by
      rw [digs, List.all_eq_true]
      exact fun d hd2 => List.all_eq_true.mp hd d (List.mem_of_mem_take hd2)
    have hv := digitsVal_le (l.take i) hdt 0
    have hv2 : NumText.digitsVal (l.take i) < 2 ^ 200 := by
      have h1 : NumText.digitsVal (l.take i) < (0 + 1) * 10 ^ (l.take i).length := hv
      have h3 : (l.take i).length ≤ 60 := by rw [List.length_take]; omega
      have h4 : (10 : Nat) ^ (l.take i).length ≤ 10 ^ 60 := Nat.pow_le_pow_right (by decide) h3
      have h5 : (10 : Nat) ^ 60 < 2 ^ 200 := by decide
      omega
    obtain ⟨rest, ho⟩ := digit_at hcd
    walk_at "go"
    refine XR.i (wide_mul (a := 200) (b := 4) (by rw [Int.natAbs_natCast]; exact hv2) (by decide) (by decide) (by decide) (by decide)) ?_
    refine XE.bm ?_
    walk_at "go"
    refine ⟨ty_str, ?_⟩
    walk_at "go"
    refine XM.sindex ho ?_
    walk_at "go"
    refine ⟨⟨some (.str ⟨#[c]⟩), ?_⟩, rfl⟩
    rw [take_get1 hc, val_step]
    have e : ((NumText.digitsVal (l.take i) * 10 + (c - 48) : Nat) : Int) = (NumText.digitsVal (l.take i) : Int) * 10 + ((c - 48 : Nat) : Int) := by omega
    rw [e]
    rfl
  rintro _ M ⟨⟨y, rfl⟩, rfl⟩
  have e9 : l.take ((S l).cps.toList.map fun c => D.str ⟨#[c]⟩).length = l := List.take_of_length_le (by rw [List.length_map]; exact Nat.le_refl _)
  rw [e9]
  have fin : ∀ b : Bool, (b = true ↔ l.length = 1 ∨ l.head? ≠ some 48) → dO dN (DL.numOf l) = if b = true then .int (NumText.digitsVal l : Nat) else .non := fun b hb => by
    unfold DL.numOf
    rw [if_pos hN]
    cases b with
    | true =>
      rw [if_neg, if_pos rfl]
      · rfl
      · rintro ⟨h1, h2⟩
        rcases hb.mp rfl with h | h
        · match l, h, h1, h2 with
          | [c], _, h1, h2 => exact h2 (by simpa using h1)
        · exact h h1
    | false =>
      have h1 : ¬ (l.length = 1 ∨ l.head? ≠ some 48) := fun z => by have := hb.mpr z; cases this
      rw [if_pos, if_neg (by decide)]
      · rfl
      · refine ⟨Classical.byContradiction fun z => h1 (.inr z), fun z => h1 (.inl (by rw [z]; rfl))⟩
  walk_at "go"
  refine XC.len_str (lenS (by omega)) ?_
  rw [hlen]
  walk_at "go"
  refine ⟨fun h1 => ?_, fun h1 => ?_⟩
  · have h1 := of_decide_eq_true h1
    walk_at "go"
    rw [fin true ⟨fun _ => .inl (by omega), fun _ => rfl⟩] at hk
    exact hk
  have h1 := of_decide_eq_false h1
  obtain ⟨c, r, rfl⟩ : ∃ c r, l = c :: r := by
    cases l with
    | nil => simp at l1
    | cons c r => exact ⟨c, r, rfl⟩
  walk_at "go"
  refine XR.ix_str (c := c) (lenS (by omega)) (at_nat (j := 0) (by omega) rfl) ?_
  walk_at "go"
  refine XR.ne_str ?_
  walk_at "go"
  have e0 : decide ((⟨#[c]⟩ : Str) = Str.ofString "0") = decide (c = 48) := by
    rw [lit_zero, decide_eq_decide]
    exact ⟨fun h => by have := SX.S_inj (a := [c]) h; simpa using this, fun h => by rw [h]⟩
  rw [e0]
  refine ⟨fun h2 => ?_, fun h2 => ?_⟩
  · have h2 : ¬ c = 48 := by simpa using h2
    walk_at "go"
    rw [fin true ⟨fun _ => .inr (by simpa using h2), fun _ => rfl⟩] at hk
    exact hk
  · have h2 : c = 48 := by simpa using h2
    walk_at "go"
    rw [fin false ⟨fun z => by (cases z), fun z => by
      rcases z with z | z
      · exact absurd (by omega : ((c :: r).length : Int) = 1) h1
      · exact absurd (by simp [h2]) z⟩] at hk
    exact hk
end
end My

namespace My
open PySem L2 DL PyProof.Rows SX
local macro_rules | `(tactic| walk_at "go") => `(tactic| repeat (first
  | ((with_reducible refine idE ?_); first
    | ((with_reducible apply XE.var); · exact rfl)
    | (with_reducible first
      | refine XE.op ?_
      | refine XE.int ?_
      | refine XE.str ?_
      | refine XE.ite ?_
      | refine XE.cb ?_
      | refine XE.tup ?_
      | refine XE.bl ?_
      | refine XE.non ?_
      | refine XE.ty ?_
      | refine XE.un ?_
      | refine XE.andV ?_
      | refine XE.orV ?_
      | refine XE.notV ?_
      | refine XE.slice ?_
      | refine XE.chain ?_))
  | ((with_reducible refine idA ?_); with_reducible first
      | refine XA.nil ?_
      | refine XA.cons ?_)
  | ((with_reducible refine idR ?_); first
      | (with_reducible first
        | refine XR.add_int ?_
        | refine XR.eq_int ?_
        | refine XR.ne_int ?_
        | refine XR.i0 ?_
        | refine XR.b0 ?_
        | refine XR.isN ?_
        | refine XR.ntN ?_)
      | refine XR.ix_tup rfl ?_
      | refine XR.ix_lst (by first | exact LsAt.lst | exact LsAt.raw At.hd) rfl ?_)
  | ((with_reducible refine idS ?_); with_reducible first
      | refine XS.seq ?_
      | refine XS.asg ?_
      | refine XS.ret ?_
      | refine XS.ifs ?_
      | refine XS.next ?_
      | refine XS.drop ?_
      | refine XS.par ?_)
  | ((with_reducible refine idT ?_); with_reducible first
      | refine XT.tst ?_
      | refine XT.bool ?_
      | refine XT.and ?_
      | refine XT.or ?_
      | refine XT.not ?_)
  | with_reducible refine ex1 ?_
  | refine pickF rfl ?_
  | refine pickT rfl ?_
  | ((with_reducible refine idO ?_); with_reducible first
      | refine XO.none ?_
      | refine XO.some ?_)
  | ((with_reducible refine idGs ?_); with_reducible first
      | refine XGs.nil ?_
      | refine XGs.cons ?_)
  | ((with_reducible refine idG ?_); with_reducible first
      | refine XG.name (by simp) ?_
      | refine XG.tup rfl ?_)
  | with_reducible refine XC.abs ?_
  | with_reducible refine XU.neg ?_
  | refine ⟨_, _, rfl, ?_⟩
  | refine ⟨_, rfl, ?_⟩
  | refine ⟨show (_ : Nat) + 1 ≤ 16000000 by simp only [List.length_cons, List.length_nil] <;> decide, ?_⟩
  | dsimp only))
local macro_rules | `(tactic| walk_at "sp") => `(tactic| first | refine ⟨[], _, rfl, rfl, ?_⟩ | refine ⟨rfl, ?_⟩)

local macro_rules | `(tactic| walk_at "mo") => `(tactic| first | exact mo_L_number | exact mo_L_fraction | exact mo_L_frac)
local macro_rules | `(tactic| walk_at "call") => `(tactic| (refine XE.callP (by walk_at "mo") (fun _ => rfl) (dD := []) (fun _ => .nil) ?_))
section
variable {P : Program} {w : World} {K : PySem.W.Frag} {mg : Str → Option Value} {base : Heap}
theorem ok_L_fraction (T : Txt K mg) : FnOk P w K mg base (L2.CX P w) 2 T.L_fraction.a T.L_fraction.fd ["text"] (spD K 1 (pur (spl_L_fraction))) := by
  refine fn_okP T.L_fraction.F sc_L_fraction rfl fun cdv A outer s H E hr => ?_
  have nd := sc_L_fraction.nd
  have hu64 := hr.units
  have hu65 := hu65_of hr
  have hu1 := hu_of hr
  refine ⟨_, (pss_cons (ps_set (i := 1) nd rfl (by first | exact Or.inl rfl | exact Or.inr rfl) (pe_ifExp (pt_val (pe_bmK (K := K) rfl PySem.F.plainAttrs_str PySem.F.slot_str_startswith PySem.F.type_str_startswith mt_startswith (pv 0) (pa_cons pe_str pa_nil))) (pe_slice (sl_K (K := K) rfl) (pv 0) (po_some pe_int) po_none) (pv 0)))
      (pss_cons (ps_set (i := 2) nd rfl (by first | exact Or.inl rfl | exact Or.inr rfl) (pe_splitD (pv 1) pe_str))
      (pss_cons (ps_par (i := 3) (j := 4) rfl nd rfl rfl (by decide) rfl rfl (pa_cons (pe_call (ok_L_number T) (hr.mono (by decide)) rfl T.L_number.g T.L_number.F.kp (b_L_number T) .nil px0 (pa_cons (pe_ix (ix_K (K := K) rfl) (pv 2) pe_int (fun _ _ => rfl)) pa_nil)) (pa_cons (pe_call (ok_L_number T) (hr.mono (by decide)) rfl T.L_number.g T.L_number.F.kp (b_L_number T) .nil px0 (pa_cons (pe_ix (ix_K (K := K) rfl) (pv 2) (pe_un un_neg pe_int) (fun _ _ => rfl)) pa_nil)) pa_nil)) (by rfl))
      (pss_cons (ps_if (PW.pt (pw_or (pt_cmpR op_gt (pe_callB (cr_lenK (K := K) rfl) (by rfl) T.m_len PySem.boot_len (pa_cons (pv 2) pa_nil)) pe_int (nomark _)) (pw_or (pt_cmpR op_isN' (pv 3) pe_non (nomark _)) (pw_or (pt_cmpR op_isN' (pv 4) pe_non (nomark _)) (pw_or (PW.pt (pw_and (pt_cmpR (op_eqK (K := K) rfl hu64) (pe_callB (cr_lenK (K := K) rfl) (by rfl) T.m_len PySem.boot_len (pa_cons (pv 2) pa_nil)) pe_int (nomark _)) (pw_and1 (pt_cmpR op_lt (pv 4) pe_int (nomark _))))) (pw_or1 (PW.pt (pw_and (pt_cmpR (op_neK (K := K) rfl hu64) (pv 1) (pv 0) (nomark _)) (pw_and1 (pt_cmpR (op_eqK (K := K) rfl hu64) (pv 3) pe_int (nomark _)))))))))))
      (pss_one (ps_ret pe_non))
      pss_nil)
      (pss_cons (ps_set (i := 4) nd rfl (by first | exact Or.inl rfl | exact Or.inr rfl) (pe_ifExp (pt_cmpR (op_eqK (K := K) rfl hu64) (pe_callB (cr_lenK (K := K) rfl) (by rfl) T.m_len PySem.boot_len (pa_cons (pv 2) pa_nil)) pe_int (nomark _)) (pv 4) pe_int))
      (pss_cons (ps_set (i := 5) nd rfl (by first | exact Or.inl rfl | exact Or.inr rfl) (pe_tup (pa_cons (pe_ifExp (pt_cmpR (op_eqK (K := K) rfl hu64) (pv 1) (pv 0) (nomark _)) (pv 3) (pe_op op_sub pe_int (pv 3))) (pa_cons (pv 4) pa_nil))))
      (pss_one (ps_ret (pe_ifExp (pt_cmpR (op_eqK (K := K) rfl hu64) (pe_ix (ix_K (K := K) rfl) (pe_call (ok_L_frac T) (hr.mono (by decide)) rfl T.L_frac.g T.L_frac.F.kp (b_L_frac T) .nil px0 (pa_cons (pv 3) (pa_cons (pv 4) pa_nil))) pe_int (fun _ _ => rfl)) (pv 4) (nomark _)) (pv 5) pe_non))))))))), fun ds kk xx hl h => ?_⟩
  try dsimp only [cxOf]
  obtain ⟨l, rfl, hl, hu, hk⟩ := h
  have hbl := bare_len l
  have hub := hu.bare
  refine XS.seq (XS.asg (XE.is (.str (S (bareOf l))) ?_ ?_))
  · walk_at "go"
    refine XE.bm ?_
    walk_at "go"
    refine ⟨ty_str, ?_⟩
    walk_at "go"
    refine XM.startswith ?_
    walk_at "go"
    rw [lit_minus, startsNeg]
    refine ⟨fun hb => ?_, fun hb => ?_⟩
    · walk_at "go"
      refine XSl.str (lenS (by omega)) ?_
      rw [cutS_tail]
      rw [bare_neg hb]
      exact ⟨rfl, rfl⟩
    · walk_at "go"
      rw [bare_pos hb]
      exact ⟨rfl, rfl⟩
  walk_at "go"
  refine XE.m1 ?_
  walk_at "go"
  refine ⟨⟨_, rfl⟩, ?_⟩
  walk_at "go"
  refine XM.split (a := S (bareOf l)) (b := "/") rfl (lenS (by omega)) ?_
  rw [lit_slash, split_c (by decide), map_map']
  walk_at "go"
  have hpl := spl1_len 47 (bareOf l)
  have hne := spl1_ne 47 (bareOf l)
  obtain ⟨a, ha⟩ : ∃ a, (spl1 47 (bareOf l))[0]? = some a := ⟨_, List.getElem?_eq_getElem (List.length_pos_iff.mpr hne)⟩
  obtain ⟨z, hz⟩ : ∃ z, (spl1 47 (bareOf l)).getLast? = some z := ⟨_, List.getLast?_eq_some_getLast hne⟩
  have ham := List.mem_of_getElem? ha
  have hzm := List.mem_of_getLast? hz
  have ha2 := spl1_mem ham
  have hz2 := spl1_mem hzm
  walk_at "call"
  walk_at "go"
  refine XR.ix_lst .lst (at_nat (j := 0) (by omega) (get_map ha)) ?_
  walk_at "go"
  refine ⟨rfl, a, rfl, by omega, hub.spl ham, ?_⟩
  walk_at "go"
  walk_at "call"
  walk_at "go"
  refine XR.ix_lst .lst (atI_last1 (by rw [List.getLast?_map, hz]; rfl)) ?_
  walk_at "go"
  refine ⟨rfl, z, rfl, by omega, hub.spl hzm, ?_⟩
  walk_at "go"
  refine XC.len .lst ?_
  rw [List.length_map]
  walk_at "go"
  unfold fracOf at hk
  generalize hP : spl1 47 (bareOf l) = ps at *
  refine ⟨fun hb => ?_, fun hb => ?_⟩
  · have hb := of_decide_eq_true hb
    walk_at "go"
    rw [fracN_long (by rw [List.length_map]; omega)] at hk
    exact hk
  have hb := of_decide_eq_false hb
  have two : ps = [a] ∧ a = z ∨ ps = [a, z] := by
    match ps, hb, ha, hz with
    | [x], _, ha, hz =>
      cases ha
      cases hz
      exact .inl ⟨rfl, rfl⟩
    | [x, y], _, ha, hz =>
      cases ha
      cases hz
      exact .inr rfl
    | _ :: _ :: _ :: _, hb, _, _ => exact absurd (show (2 : Int) < _ by simp only [List.length_cons]; omega) hb
  rcases two with ⟨rfl, rfl⟩ | rfl
  · simp only [List.map_cons, List.map_nil] at hk ⊢
    cases hna : DL.numOf a with
    | none =>
      rw [hna] at hk
      simp only [dO]
      walk_at "go"
      exact hk
    | some n =>
      rw [hna] at hk
      simp only [dO]
      walk_at "go"
      refine XC.len .lst ?_
      walk_at "go"
      refine XR.ne_str ?_
      walk_at "go"
      rw [S_eq, bare_eq]
      cases hng : isNeg l
      · rw [hng] at hk
        refine pickF rfl ?_
        walk_at "go"
        refine XC.len .lst ?_
        walk_at "go"
        refine XR.eq_str ?_
        rw [S_eq, bare_eq, hng]
        walk_at "go"
        walk_at "call"
        walk_at "go"
        refine ⟨rfl, (n : Int), 1, 200, rfl, by omega, B.one (by decide), by decide, by decide, ?_⟩
        walk_at "go"
        refine pickT (decide_eq_true ((den_gcd (n := (n : Int)) (d := 1) (by decide)).mpr (by simp))) ?_
        walk_at "go"
        rw [fracN_int, if_neg (by simp)] at hk
        have hk : kk (dQ (Rat.divInt (n : Int) 1)) := hk
        rw [dQ_of1] at hk
        exact hk
      · rw [hng] at hk
        refine pickT rfl ?_
        walk_at "go"
        refine ⟨fun hz0 => ?_, fun hz0 => ?_⟩
        · have hz0 : n = 0 := by have := of_decide_eq_true hz0; omega
          walk_at "go"
          rw [fracN_int, if_pos ⟨rfl, hz0⟩] at hk
          exact hk
        have hz0 : ¬ n = 0 := by have := of_decide_eq_false hz0; omega
        walk_at "go"
        refine XC.len .lst ?_
        walk_at "go"
        refine XR.eq_str ?_
        rw [S_eq, bare_eq, hng]
        walk_at "go"
        walk_at "call"
        walk_at "go"
        refine ⟨rfl, (n : Int), 1, 200, rfl, by omega, B.one (by decide), by decide, by decide, ?_⟩
        walk_at "go"
        refine pickT (decide_eq_true ((den_gcd (n := (n : Int)) (d := 1) (by decide)).mpr (by simp))) ?_
        walk_at "go"
        rw [fracN_int, if_neg (fun z => hz0 z.2)] at hk
        have hk : kk (dQ (Rat.divInt (-(n : Int)) 1)) := hk
        rw [dQ_of1] at hk
        rw [Int.zero_sub]
        exact hk
  · simp only [List.map_cons, List.map_nil] at hk ⊢
    cases hna : DL.numOf a with
    | none =>
      rw [hna] at hk
      simp only [dO]
      walk_at "go"
      exact hk
    | some n =>
      cases hnz : DL.numOf z with
      | none =>
        rw [hna, hnz] at hk
        simp only [dO]
        walk_at "go"
        exact hk
      | some d =>
      rw [hna, hnz] at hk
      have hB := numOf_B hnz
      simp only [dO]
      walk_at "go"
      refine XC.len .lst ?_
      walk_at "go"
      refine ⟨fun h2 => ?_, fun h2 => ?_⟩
      · have h2 : d < 2 := by have := of_decide_eq_true h2; omega
        walk_at "go"
        rw [fracN_two, if_pos h2] at hk
        exact hk
      have h2 : ¬ d < 2 := by have := of_decide_eq_false h2; omega
      walk_at "go"
      refine XR.ne_str ?_
      walk_at "go"
      rw [S_eq, bare_eq]
      cases hng : isNeg l
      · rw [hng] at hk
        refine pickF rfl ?_
        walk_at "go"
        refine XC.len .lst ?_
        walk_at "go"
        refine XR.eq_str ?_
        rw [S_eq, bare_eq, hng]
        walk_at "go"
        walk_at "call"
        walk_at "go"
        refine ⟨rfl, (n : Int), (d : Int), 200, rfl, by omega, hB, by decide, by decide, ?_⟩
        walk_at "go"
        rw [decide_eq_decide.mpr (den_gcd (n := (n : Int)) (d := (d : Int)) (by omega))]
        rw [fracN_two, if_neg h2, if_neg (by simp)] at hk
        have hk : kk (dO dQ (if Int.gcd (n : Int) d = 1 then some (Rat.divInt (n : Int) d) else none)) := hk
        refine ⟨fun hg => ?_, fun hg => ?_⟩
        · have hg : Int.gcd (n : Int) d = 1 := of_decide_eq_true hg
          walk_at "go"
          rw [if_pos hg] at hk
          have hk : kk (dQ (Rat.divInt (n : Int) d)) := hk
          rw [dQ_of (by omega) hg] at hk
          exact hk
        · have hg : ¬ Int.gcd (n : Int) d = 1 := of_decide_eq_false hg
          walk_at "go"
          rw [if_neg hg] at hk
          exact hk
      · rw [hng] at hk
        refine pickT rfl ?_
        walk_at "go"
        refine ⟨fun hz0 => ?_, fun hz0 => ?_⟩
        · have hz0 : n = 0 := by have := of_decide_eq_true hz0; omega
          walk_at "go"
          rw [fracN_two, if_neg h2, if_pos ⟨rfl, hz0⟩] at hk
          exact hk
        have hz0 : ¬ n = 0 := by have := of_decide_eq_false hz0; omega
        walk_at "go"
        refine XC.len .lst ?_
        walk_at "go"
        refine XR.eq_str ?_
        rw [S_eq, bare_eq, hng]
        walk_at "go"
        walk_at "call"
        walk_at "go"
        refine ⟨rfl, (n : Int), (d : Int), 200, rfl, by omega, hB, by decide, by decide, ?_⟩
        walk_at "go"
        rw [decide_eq_decide.mpr (den_gcd (n := (n : Int)) (d := (d : Int)) (by omega))]
        rw [fracN_two, if_neg h2, if_neg (fun z => hz0 z.2)] at hk
        have hk : kk (dO dQ (if Int.gcd (-(n : Int)) d = 1 then some (Rat.divInt (-(n : Int)) d) else none)) := hk
        refine ⟨fun hg => ?_, fun hg => ?_⟩
        · have hg : Int.gcd (-(n : Int)) d = 1 := by rw [Int.neg_gcd]; exact of_decide_eq_true hg
          walk_at "go"
          rw [if_pos hg] at hk
          have hk : kk (dQ (Rat.divInt (-(n : Int)) d)) := hk
          rw [dQ_of (by omega) hg] at hk
          rw [Int.zero_sub]
          exact hk
        · have hg : ¬ Int.gcd (-(n : Int)) d = 1 := by rw [Int.neg_gcd]; exact of_decide_eq_false hg
          walk_at "go"
          rw [if_neg hg] at hk
          exact hk
end
end My

namespace My
open PySem L2 DL PyProof.Rows SX
local macro_rules | `(tactic| walk_at "go") => `(tactic| repeat (first
  | ((with_reducible refine idE ?_); first
    | ((with_reducible apply XE.var); · exact rfl)
    | (with_reducible first
      | refine XE.op ?_
      | refine XE.int ?_
      | refine XE.str ?_
      | refine XE.ite ?_
      | refine XE.cb ?_
      | refine XE.tup ?_
      | refine XE.bl ?_
      | refine XE.non ?_
      | refine XE.ty ?_
      | refine XE.un ?_
      | refine XE.andV ?_
      | refine XE.orV ?_
      | refine XE.notV ?_
      | refine XE.slice ?_
      | refine XE.chain ?_))
  | ((with_reducible refine idA ?_); with_reducible first
      | refine XA.nil ?_
      | refine XA.cons ?_)
  | ((with_reducible refine idR ?_); first
      | (with_reducible first
        | refine XR.add_int ?_
        | refine XR.eq_int ?_
        | refine XR.ne_int ?_
        | refine XR.i0 ?_
        | refine XR.b0 ?_
        | refine XR.isN ?_
        | refine XR.ntN ?_)
      | refine XR.ix_tup rfl ?_
      | refine XR.ix_lst (by first | exact LsAt.lst | exact LsAt.raw At.hd) rfl ?_)
  | ((with_reducible refine idS ?_); with_reducible first
      | refine XS.seq ?_
      | refine XS.asg ?_
      | refine XS.ret ?_
      | refine XS.ifs ?_
      | refine XS.next ?_
      | refine XS.drop ?_
      | refine XS.par ?_)
  | ((with_reducible refine idT ?_); with_reducible first
      | refine XT.tst ?_
      | refine XT.bool ?_
      | refine XT.and ?_
      | refine XT.or ?_
      | refine XT.not ?_)
  | with_reducible refine ex1 ?_
  | refine pickF rfl ?_
  | refine pickT rfl ?_
  | ((with_reducible refine idO ?_); with_reducible first
      | refine XO.none ?_
      | refine XO.some ?_)
  | ((with_reducible refine idGs ?_); with_reducible first
      | refine XGs.nil ?_
      | refine XGs.cons ?_)
  | ((with_reducible refine idG ?_); with_reducible first
      | refine XG.name (by simp) ?_
      | refine XG.tup rfl ?_)
  | with_reducible refine XC.abs ?_
  | with_reducible refine XU.neg ?_
  | refine ⟨_, _, rfl, ?_⟩
  | refine ⟨_, rfl, ?_⟩
  | refine ⟨show (_ : Nat) + 1 ≤ 16000000 by simp only [List.length_cons, List.length_nil] <;> decide, ?_⟩
  | dsimp only))
local macro_rules | `(tactic| walk_at "sp") => `(tactic| first | refine ⟨[], _, rfl, rfl, ?_⟩ | refine ⟨rfl, ?_⟩)

abbrev dKl (ks : List Kn) : D := .lst (ks.map dKn)
def spl_L_knots_read : PSp := fun ds k _ => ∃ ws : List (List Nat), ds = [.lst (ws.map fun w => .str (S w))] ∧ ws.length ≤ 1000001 ∧ (∀ w ∈ ws, w.length ≤ 900000 ∧ Uni w) ∧ k (dO dKl (knotsOf ws))
theorem mo_L_knots_read : MonoP spl_L_knots_read := fun _ _ _ _ _ hk _ ⟨q, e, h, h2, z⟩ => ⟨q, e, h, h2, hk _ z⟩
local macro_rules | `(tactic| walk_at "mo") => `(tactic| first | exact mo_L_number | exact mo_L_fraction | exact mo_L_frac)
local macro_rules | `(tactic| walk_at "call") => `(tactic| (refine XE.callP (by walk_at "mo") (fun _ => rfl) (dD := []) (fun _ => .nil) ?_))
section
variable {P : Program} {w : World} {K : PySem.W.Frag} {mg : Str → Option Value} {base : Heap}
theorem ok_L_knots_read (T : Txt K mg) : FnOk P w K mg base (L2.CX P w) 3 T.L_knots_read.a T.L_knots_read.fd ["words"] (spD K 1 (pur (spl_L_knots_read))) := by
  refine fn_okP T.L_knots_read.F sc_L_knots_read rfl fun cdv A outer s H E hr => ?_
  have nd := sc_L_knots_read.nd
  have hu64 := hr.units
  have hu65 := hu65_of hr
  have hu1 := hu_of hr
  refine ⟨_, (pss_cons (ps_set (i := 1) nd rfl (by first | exact Or.inl rfl | exact Or.inr rfl) (pe_lst pa_nil))
      (pss_cons (ps_for (passes_of rfl) rfl (pi_K (K := K) rfl (pv 0)) (pg_name (i := 2) nd rfl (by first | exact Or.inl rfl | exact Or.inr rfl))
      (pss_cons (ps_setLc (i := 3) (own := [("part", 4)]) (g := gName 4) (by rfl) nd rfl rfl (sw_true rfl rfl rfl (by decide +kernel)) (pi_K (K := K) rfl (pe_splitD (pv 2) pe_str)) (blkOk_by (N := N_L_knots_read) (sc := defScope s_L_knots_read) (by decide +kernel)) (fun _ _ _ _ _ => (pg_name (i := 4) nd rfl (by first | exact Or.inl rfl | exact Or.inr rfl))) (fun _ _ _ _ _ => pts_nil) (fun _ _ _ _ _ => (pe_call (ok_L_fraction T) (hr.mono (by decide)) rfl T.L_fraction.g T.L_fraction.F.kp (b_L_fraction T) .nil passL (pa_cons (pv 4) pa_nil))))
      (pss_cons (ps_if (PW.pt (pw_or (pt_cmpR (op_neK (K := K) rfl hu64) (pe_callB (cr_lenK (K := K) rfl) (by rfl) T.m_len PySem.boot_len (pa_cons (pv 3) pa_nil)) pe_int (nomark _)) (pw_or1 (pt_cmpR (op_inK (K := K) rfl hu65) pe_non (pv 3) (by rfl)))))
      (pss_one (ps_ret pe_non))
      pss_nil)
      (pss_one (ps_expr (pe_bmK (K := K) rfl PySem.F.plainAttrs_list PySem.F.slot_list_append PySem.F.type_list_append mt_append (pv 1) (pa_cons (pe_tup (pa_cons (pe_ix (ix_K (K := K) rfl) (pv 3) pe_int (fun _ _ => rfl)) (pa_cons (pe_ix (ix_K (K := K) rfl) (pv 3) pe_int (fun _ _ => rfl)) pa_nil))) pa_nil)))))))
      (pss_one (ps_ret (pe_ifExp (pt_cmpR (op_neK (K := K) rfl hu64) (pv 1) (pe_lst pa_nil) (nomark _)) (pv 1) pe_non))))), fun ds kk xx hl h => ?_⟩
  try dsimp only [cxOf]
  obtain ⟨ws, rfl, hl, hu, hk⟩ := h
  refine XS.seq (XS.asg (XE.lstM ?_))
  walk_at "go"
  refine ⟨by decide, fun p hp => ?_⟩
  walk_at "go"
  refine XS.for [2] (XI.U ?_)
  walk_at "go"
  refine ⟨_, .lst, fun i ds M => ∃ (ks : List Kn) (y z : Option D), ds = [some (.lst (ws.map fun w => .str (S w))), some (.raw p), y, z, none] ∧ M = [(p, .lst (ks.map dKn))] ∧ (ws.take i).map knotOf = ks.map some, ⟨[], _, _, rfl, rfl, rfl⟩, ?_, ?_⟩
  · rintro i x _ M hx ⟨ks, y, z, rfl, rfl, hA⟩
    obtain ⟨v, hv, rfl⟩ := map_get hx
    have hvm := List.mem_of_getElem? hv
    have hi : i < ws.length := (List.getElem?_eq_some_iff.mp hv).1
    have hvl := hu v hvm
    have hpl := spl1_len 58 v
    have hkl : ks.length = i := by
      have := congrArg List.length hA
      rw [List.length_map, List.length_map, List.length_take] at this
      omega
    walk_at "go"
    refine XE.lcMap (fun p : List Nat => D.str (S p)) (fun p => dO dQ (fracOf p)) str_inj (XI.U ?_)
    refine XE.m1 ?_
    walk_at "go"
    refine ⟨⟨_, rfl⟩, ?_⟩
    walk_at "go"
    refine XM.split (a := S v) (b := ":") rfl (lenS (by omega)) ?_
    rw [lit_colon, split_c (by decide), map_map']
    refine ⟨_, .lst, spl1 58 v, rfl, by omega, fun q hq => ?_, ?_⟩
    · have hpl2 := spl1_mem hq
      walk_at "go"
      walk_at "call"
      walk_at "go"
      refine ⟨rfl, q, rfl, by omega, hvl.2.spl hq, ?_⟩
      exact ⟨rfl, rfl⟩
    rw [← map_map' (dO dQ) fracOf]
    have bad : knotOf v = none → kk .non := fun hn => by
      have e : knotsOf ws = none := by
        unfold knotsOf
        split
        · rfl
        · exact allSome_none.mpr (List.mem_map.mpr ⟨v, hvm, hn⟩)
      rw [e] at hk
      exact hk
    walk_at "go"
    refine XC.len .lst ?_
    rw [List.length_map]
    walk_at "go"
    refine ⟨fun hb => ?_, fun hb => ?_⟩
    · have hb : ¬ ((((spl1 58 v).map fracOf).length : Nat) : Int) = 2 := by simpa using hb
      walk_at "go"
      refine bad ?_
      rcases knotOf_eq v with ⟨h1, _⟩ | ⟨_, e⟩
      · exact absurd (by omega) hb
      · exact e
    have hb : ((((spl1 58 v).map fracOf).length : Nat) : Int) = 2 := by simpa using hb
    walk_at "go"
    refine XR.inO (e := dQ) (n := 1) .lst dQ_ok (by decide) eqv_dQ_none ?_
    walk_at "go"
    rcases knotOf_eq v with ⟨h1, h2, a, b, e, e2⟩ | ⟨h1, e⟩
    · rw [h2]
      refine pickF rfl ?_
      rw [e]
      walk_at "go"
      refine XE.bm ?_
      walk_at "go"
      refine ⟨ty_lst (.raw .hd), ?_⟩
      walk_at "go"
      refine XM.append .hd (by rw [List.length_map]; omega) ?_
      refine ⟨ks ++ [(a, b)], _, _, rfl, by rw [List.map_append]; rfl, ?_⟩
      rw [take_get1 hv, List.map_append, hA, List.map_append, List.map_cons, List.map_nil, e2]
      rfl
    · have h2 : ((spl1 58 v).map fracOf).any Option.isNone = true := by
        cases q : ((spl1 58 v).map fracOf).any Option.isNone with
        | true => rfl
        | false => exact absurd ⟨by omega, q⟩ h1
      rw [h2]
      refine pickT rfl ?_
      walk_at "go"
      exact bad e
  rintro _ M ⟨ks, y, z, rfl, rfl, hA⟩
  rw [List.length_map, List.take_length] at hA
  have hlen : ws.length = ks.length := by
    have := congrArg List.length hA
    rwa [List.length_map, List.length_map] at this
  refine XS.ret (XE.ite (XT.tst (XE.op (XE.var rfl (XE.lstF ?_)))))
  walk_at "go"
  refine ⟨by decide, ?_⟩
  refine XR.ne_nil (n := 3) (xs := ks.map dKn) (.raw .hd) (okD_map (n := 2) dKn_ok ks) (by decide) .self ?_
  walk_at "go"
  refine ⟨fun hb => ?_, fun hb => ?_⟩
  · have hb : ks ≠ [] := by simpa using hb
    refine DL.XE.varF (i := 1) (ds := [some (.lst (ws.map fun w => .str (S w))), some (.raw p), y, z, none]) (p := p) (xs := ks.map dKn) rfl .hd ?_
    have hw : ws ≠ [] := fun q => hb (List.length_eq_zero_iff.mp (by rw [← hlen, q]; rfl))
    have e : knotsOf ws = some ks := by
      unfold knotsOf
      rw [if_neg hw, hA, allSome_map]
    rw [e] at hk
    exact hk
  · have hb : ks = [] := by simpa using hb
    walk_at "go"
    have hw : ws = [] := List.length_eq_zero_iff.mp (by rw [hlen, hb]; rfl)
    have e : knotsOf ws = none := if_pos hw
    rw [e] at hk
    exact hk
end
end My

namespace My
open PySem L2 DL PyProof.Rows SX
local macro_rules | `(tactic| walk_at "go") => `(tactic| repeat (first
  | ((with_reducible refine idE ?_); first
    | ((with_reducible apply XE.var); · exact rfl)
    | (with_reducible first
      | refine XE.op ?_
      | refine XE.int ?_
      | refine XE.str ?_
      | refine XE.ite ?_
      | refine XE.cb ?_
      | refine XE.tup ?_
      | refine XE.bl ?_
      | refine XE.non ?_
      | refine XE.ty ?_
      | refine XE.un ?_
      | refine XE.andV ?_
      | refine XE.orV ?_
      | refine XE.notV ?_
      | refine XE.slice ?_
      | refine XE.chain ?_))
  | ((with_reducible refine idA ?_); with_reducible first
      | refine XA.nil ?_
      | refine XA.cons ?_)
  | ((with_reducible refine idR ?_); first
      | (with_reducible first
        | refine XR.add_int ?_
        | refine XR.eq_int ?_
        | refine XR.ne_int ?_
        | refine XR.i0 ?_
        | refine XR.b0 ?_
        | refine XR.isN ?_
        | refine XR.ntN ?_)
      | refine XR.ix_tup rfl ?_
      | refine XR.ix_lst (by first | exact LsAt.lst | exact LsAt.raw At.hd) rfl ?_)
  | ((with_reducible refine idS ?_); with_reducible first
      | refine XS.seq ?_
      | refine XS.asg ?_
      | refine XS.ret ?_
      | refine XS.ifs ?_
      | refine XS.next ?_
      | refine XS.drop ?_
      | refine XS.par ?_)
  | ((with_reducible refine idT ?_); with_reducible first
      | refine XT.tst ?_
      | refine XT.bool ?_
      | refine XT.and ?_
      | refine XT.or ?_
      | refine XT.not ?_)
  | with_reducible refine ex1 ?_
  | refine pickF rfl ?_
  | refine pickT rfl ?_
  | ((with_reducible refine idO ?_); with_reducible first
      | refine XO.none ?_
      | refine XO.some ?_)
  | ((with_reducible refine idGs ?_); with_reducible first
      | refine XGs.nil ?_
      | refine XGs.cons ?_)
  | ((with_reducible refine idG ?_); with_reducible first
      | refine XG.name (by simp) ?_
      | refine XG.tup rfl ?_)
  | with_reducible refine XC.abs ?_
  | with_reducible refine XU.neg ?_
  | refine ⟨_, _, rfl, ?_⟩
  | refine ⟨_, rfl, ?_⟩
  | refine ⟨show (_ : Nat) + 1 ≤ 16000000 by simp only [List.length_cons, List.length_nil] <;> decide, ?_⟩
  | dsimp only))
local macro_rules | `(tactic| walk_at "sp") => `(tactic| first | refine ⟨[], _, rfl, rfl, ?_⟩ | refine ⟨rfl, ?_⟩)

open Classical in
/-- what the law expects read_table to answer -/
noncomputable def saidD (l : List Nat) : D := match knotsOf (spl1 32 l) with
  | none => .str "text0"
  | some ks => if Good ks then dKl ks else .str "table"
def spl_L_said : PSp := fun ds k _ => (∃ v : D, ds = [v] ∧ v.tyN.isSome = true ∧ D.isT v "str" = false ∧ k (.str "text0")) ∨
  ∃ (l : List Nat), ds = [.str (S l)] ∧ l.length ≤ 900000 ∧ Uni l ∧ (∀ ks, knotsOf (spl1 32 l) = some ks → BKs 200 ks) ∧ k (saidD l)
theorem mo_L_said : MonoP spl_L_said := fun _ _ _ _ _ hk _ h => h.imp (fun ⟨v, e, h1, h2, q⟩ => ⟨v, e, h1, h2, hk _ q⟩) fun ⟨l, e, h1, h2, h3, q⟩ => ⟨l, e, h1, h2, h3, hk _ q⟩
local macro_rules | `(tactic| walk_at "mo") => `(tactic| first | exact mo_L_number | exact mo_Timetable_knots _ | exact mo_read_table _ _ _)
local macro_rules | `(tactic| walk_at "call") => `(tactic| (refine XE.callP (by walk_at "mo") (fun _ => rfl) (dD := []) (fun _ => .nil) ?_))
section
variable {P : Program} {w : World} {K : PySem.W.Frag} {mg : Str → Option Value} {base : Heap}
theorem ok_L_said (T : Txt K mg) : FnOk P w K mg base (L2.CX P w) 9 T.L_said.a T.L_said.fd ["text"] (spD K 1 (pur (spl_L_said))) := by
  refine fn_okP T.L_said.F sc_L_said rfl fun cdv A outer s H E hr => ?_
  have nd := sc_L_said.nd
  have hu64 := hr.units
  have hu65 := hu65_of hr
  have hu1 := hu_of hr
  refine ⟨_, (pss_cons (ps_asg (pe_tup (pa_cons pe_non (pa_cons pe_non pa_nil))) (pg_tupK (K := K) (n := 2) rfl rfl (pgs_cons (pg_name (i := 1) nd rfl (by first | exact Or.inl rfl | exact Or.inr rfl)) (pgs_cons (pg_name (i := 2) nd rfl (by first | exact Or.inl rfl | exact Or.inr rfl)) pgs_nil))))
      (pss_cons (ps_try_keep (i := 3) (Wo := fun cls d _ H => E cls d H) rfl rfl nd rfl rfl ⟨rfl, by decide, Or.inl T.g_TrackError⟩ (takes_of rfl rfl rfl rfl) (fun W pn xe tk po => (pss_one (ps_set (i := 2) nd rfl (by first | exact Or.inl rfl | exact Or.inr rfl) (pe_callS (ok_read_table T) (hr.mono (by decide)) rfl T.read_table.g T.read_table.F.kp (b_read_table T) (fun σ => passAt tk σ) (pa_cons (pv 0) pa_nil)))))
      (fun a oe cls d pn hz hf => (pss_one (ps_set (i := 1) nd rfl (by first | exact Or.inl rfl | exact Or.inr rfl) (pv 3)))))
      (pss_cons (ps_if (pt_cmpR op_isN' (pv 1) pe_non (nomark _))
      (pss_one (ps_ret (pe_meth0 (pv 2) T.cl_Timetable T.Timetable_knots.me (ok_Timetable_knots T) (hr.mono (by decide)) (b_Timetable_knots T) .nil px0)))
      pss_nil)
      (pss_cons (ps_if (pt_val (pe_callB cr_isX (by rfl) T.m_isinstance boot_isinstance (pa_cons (pv 1) (pa_cons (pe_glob (v := .ref T.C_NoText) rfl T.g_NoText rfl) pa_nil))))
      (pss_one (ps_ret (pe_ifExp (pt_not (pt_val (pe_callB cr_isX (by rfl) T.m_isinstance boot_isinstance (pa_cons (pv 1) (pa_cons (pe_glob (v := .ref T.C_NoTable) rfl T.g_NoTable rfl) pa_nil))))) (pe_op (op_addK (K := K) rfl) pe_str (pe_callB SkE.call_repr_int (by rfl) T.m_repr boot_repr (pa_cons (pe_xg (pv 1)) pa_nil))) pe_str)))
      pss_nil)
      (pss_one (ps_ret (pe_ifExp (pt_val (pe_callB cr_isX (by rfl) T.m_isinstance boot_isinstance (pa_cons (pv 1) (pa_cons (pe_glob (v := .ref T.C_NoTable) rfl T.g_NoTable rfl) pa_nil)))) pe_str pe_str))))))), fun ds kk xx hl h => ?_⟩
  try dsimp only [cxOf]
  obtain ⟨v, rfl⟩ : ∃ v, ds = [v] := by
    rcases h with ⟨v, e, _⟩ | ⟨l, e, _⟩
    · exact ⟨v, e⟩
    · exact ⟨_, e⟩
  walk_at "go"
  refine XS.asgG [1, 2] ?_
  walk_at "go"
  refine XS.tryKeep (C := cfg K E fun c fs x => xx c fs) (tb := fun W => tAsg (tCallS (spD K 1 (pur (spl_read_table T.C_Timetable T.C_NoTable T.C_NoText))) (WE W) (tCons (tVar 0) tNil)) (gName 2)) (i := 3) (j := 1) (by decide) (fun ds' cls fs M' => ds' = [some v, some .non, some .non, none] ∧ M' = [] ∧ ((cls = .ref T.C_NoText ∧ fs = ([("row", .int 0)] : List (Str × D)) ∧ kk (.str "text0")) ∨ (cls = .ref T.C_NoTable ∧ fs = [] ∧ kk (.str "table")))) ?_ ?_
  · rintro ds' cls fs M' ⟨rfl, rfl, hc⟩
    refine ⟨by show 3 < 4; decide, true, ?_, fun _ => ?_, fun z => by cases z⟩
    · rcases hc with ⟨rfl, _⟩ | ⟨rfl, _⟩
      · exact T.ex_NoText_TrackError
      · exact T.ex_NoTable_TrackError
    · rcases hc with ⟨rfl, rfl, hk⟩ | ⟨rfl, rfl, hk⟩
      · refine ⟨_, rfl, ?_⟩
        walk_at "go"
        refine XE.c (d := .raw _) (fun _ => .raw _) ?_
        walk_at "go"
        refine XC.isi_exc T.ec_NoText T.kt_NoText_NoText ?_
        walk_at "go"
        refine XE.c (d := .raw _) (fun _ => .raw _) ?_
        walk_at "go"
        refine XC.isi_exc T.ec_NoText T.kt_NoText_NoTable ?_
        walk_at "go"
        refine XE.xg ?_
        walk_at "go"
        refine ⟨_, _, _, rfl, T.xf_NoText, T.nf_NoText_row, rfl, ?_⟩
        walk_at "go"
        refine XC.reprI (by decide) ?_
        refine XR.add_str (by decide) ?_
        exact hk
      · refine ⟨_, rfl, ?_⟩
        walk_at "go"
        refine XE.c (d := .raw _) (fun _ => .raw _) ?_
        walk_at "go"
        refine XC.isi_exc T.ec_NoTable T.kt_NoTable_NoText ?_
        walk_at "go"
        refine XE.c (d := .raw _) (fun _ => .raw _) ?_
        walk_at "go"
        refine XC.isi_exc T.ec_NoTable T.kt_NoTable_NoTable ?_
        walk_at "go"
        exact hk
  · intro W
    walk_at "go"
    refine XE.callSP (mo_read_table _ _ _) ?_
    walk_at "go"
    refine ⟨rfl, ?_⟩
    rcases h with ⟨v', e, h1, h2, hk⟩ | ⟨l, e, hl9, hu, hB, hk⟩
    · cases e
      exact .inl ⟨v, rfl, h1, h2, rfl, rfl, .inl ⟨rfl, rfl, hk⟩⟩
    · cases e
      refine .inr ⟨l, rfl, hl9, hu, hB, fun hn => ⟨rfl, rfl, .inl ⟨rfl, rfl, ?_⟩⟩, fun ks hs => ⟨fun hg => ?_, fun hg => ⟨rfl, rfl, .inr ⟨rfl, rfl, ?_⟩⟩⟩⟩
      · unfold saidD at hk
        rw [hn] at hk
        exact hk
      · unfold saidD at hk
        rw [hs] at hk
        simp only [if_pos hg] at hk
        walk_at "go"
        refine XE.methP (by walk_at "mo") (fun _ => rfl) (dD := []) (fun _ => .nil) ?_
        walk_at "go"
        refine ⟨tabF ks, .ins, rfl, ?_⟩
        walk_at "go"
        exact ⟨rfl, ks, rfl, hk⟩
      · unfold saidD at hk
        rw [hs] at hk
        simp only [if_neg hg] at hk
        exact hk
end
end My

namespace My
open PySem L2 DL PyProof.Rows SX
local macro_rules | `(tactic| walk_at "go") => `(tactic| repeat (first
  | ((with_reducible refine idE ?_); first
    | ((with_reducible apply XE.var); · exact rfl)
    | (with_reducible first
      | refine XE.op ?_
      | refine XE.int ?_
      | refine XE.str ?_
      | refine XE.ite ?_
      | refine XE.cb ?_
      | refine XE.tup ?_
      | refine XE.bl ?_
      | refine XE.non ?_
      | refine XE.ty ?_
      | refine XE.un ?_
      | refine XE.andV ?_
      | refine XE.orV ?_
      | refine XE.notV ?_
      | refine XE.slice ?_
      | refine XE.chain ?_))
  | ((with_reducible refine idA ?_); with_reducible first
      | refine XA.nil ?_
      | refine XA.cons ?_)
  | ((with_reducible refine idR ?_); first
      | (with_reducible first
        | refine XR.add_int ?_
        | refine XR.eq_int ?_
        | refine XR.ne_int ?_
        | refine XR.i0 ?_
        | refine XR.b0 ?_
        | refine XR.isN ?_
        | refine XR.ntN ?_)
      | refine XR.ix_tup rfl ?_
      | refine XR.ix_lst (by first | exact LsAt.lst | exact LsAt.raw At.hd) rfl ?_)
  | ((with_reducible refine idS ?_); with_reducible first
      | refine XS.seq ?_
      | refine XS.asg ?_
      | refine XS.ret ?_
      | refine XS.ifs ?_
      | refine XS.next ?_
      | refine XS.drop ?_
      | refine XS.par ?_)
  | ((with_reducible refine idT ?_); with_reducible first
      | refine XT.tst ?_
      | refine XT.bool ?_
      | refine XT.and ?_
      | refine XT.or ?_
      | refine XT.not ?_)
  | with_reducible refine ex1 ?_
  | refine pickF rfl ?_
  | refine pickT rfl ?_
  | ((with_reducible refine idO ?_); with_reducible first
      | refine XO.none ?_
      | refine XO.some ?_)
  | ((with_reducible refine idGs ?_); with_reducible first
      | refine XGs.nil ?_
      | refine XGs.cons ?_)
  | ((with_reducible refine idG ?_); with_reducible first
      | refine XG.name (by simp) ?_
      | refine XG.tup rfl ?_)
  | with_reducible refine XC.abs ?_
  | with_reducible refine XU.neg ?_
  | refine ⟨_, _, rfl, ?_⟩
  | refine ⟨_, rfl, ?_⟩
  | refine ⟨show (_ : Nat) + 1 ≤ 16000000 by simp only [List.length_cons, List.length_nil] <;> decide, ?_⟩
  | dsimp only))
local macro_rules | `(tactic| walk_at "sp") => `(tactic| first | refine ⟨[], _, rfl, rfl, ?_⟩ | refine ⟨rfl, ?_⟩)

def spl_L_due : PSp := fun ds k _ => (∃ v : D, ds = [v] ∧ v.tyN.isSome = true ∧ D.isT v "str" = false ∧ k (.str "text0")) ∨
  ∃ (l : List Nat), ds = [.str (S l)] ∧ l.length ≤ 900000 ∧ Uni l ∧ (∀ ks, knotsOf (spl1 32 l) = some ks → BKs 200 ks) ∧ (spl1 32 l).length ≤ 1000000 ∧ k (saidD l)
theorem mo_L_due : MonoP spl_L_due := fun _ _ _ _ _ hk _ h => h.imp (fun ⟨v, e, h1, h2, q⟩ => ⟨v, e, h1, h2, hk _ q⟩) fun ⟨l, e, h1, h2, h3, h4, q⟩ => ⟨l, e, h1, h2, h3, h4, hk _ q⟩
local macro_rules | `(tactic| walk_at "mo") => `(tactic| first | exact mo_L_knots_read | exact mo_L_in_order)
local macro_rules | `(tactic| walk_at "call") => `(tactic| (refine XE.callP (by walk_at "mo") (fun _ => rfl) (dD := []) (fun _ => .nil) ?_))
theorem asc_pair {rs : List Rat} (h : AscQ rs) : rs.Pairwise (· < ·) := by
  rw [List.pairwise_iff_getElem]
  intro i j hi hj hij
  obtain ⟨d, rfl⟩ : ∃ d, j = i + 1 + d := ⟨j - i - 1, by omega⟩
  induction d with
  | zero => exact h i _ _ (List.getElem?_eq_getElem hi) (List.getElem?_eq_getElem hj)
  | succ d ih =>
    have h1 := ih (by omega) (by omega)
    have h2 := h (i + 1 + d) _ _ (List.getElem?_eq_getElem (by omega)) (List.getElem?_eq_getElem (by omega : i + 1 + d + 1 < rs.length))
    have h3 : i + 1 + (d + 1) = i + 1 + d + 1 := rfl
    grind
theorem asc_fst {ks : List Kn} : Asc ks ↔ (ks.map (·.1)).Pairwise (· < ·) := by
  constructor
  · intro h
    refine asc_pair fun i a b ha hb => ?_
    rw [List.getElem?_map, Option.map_eq_some_iff] at ha hb
    obtain ⟨x, hx, rfl⟩ := ha
    obtain ⟨y, hy, rfl⟩ := hb
    exact h i x y hx hy
  · intro h i a b ha hb
    exact asc_next h (by rw [List.getElem?_map, ha]; rfl) (by rw [List.getElem?_map, hb]; rfl)
section
variable {P : Program} {w : World} {K : PySem.W.Frag} {mg : Str → Option Value} {base : Heap}
theorem ok_L_due (T : Txt K mg) : FnOk P w K mg base (L2.CX P w) 4 T.L_due.a T.L_due.fd ["text"] (spD K 1 (pur (spl_L_due))) := by
  refine fn_okP T.L_due.F sc_L_due rfl fun cdv A outer s H E hr => ?_
  have nd := sc_L_due.nd
  have hu64 := hr.units
  have hu65 := hu65_of hr
  have hu1 := hu_of hr
  refine ⟨_, (pss_cons (ps_set (i := 1) nd rfl (by first | exact Or.inl rfl | exact Or.inr rfl) (pe_ifExp (pt_val (pe_callB (cr_isiK (K := K) rfl) (by rfl) T.m_isinstance boot_isinstance (pa_cons (pv 0) (pa_cons (pe_bltn (v := .ty "str") (by rfl) T.m_str boot_str rfl) pa_nil)))) (pe_call (ok_L_knots_read T) (hr.mono (by decide)) rfl T.L_knots_read.g T.L_knots_read.F.kp (b_L_knots_read T) .nil px0 (pa_cons (pe_splitD (pv 0) pe_str) pa_nil)) pe_non))
      (pss_cons (ps_if (pt_cmpR op_isN' (pv 1) pe_non (nomark _))
      (pss_one (ps_ret pe_str))
      pss_nil)
      (pss_cons (ps_setLc (i := 2) (own := [("knot", 3)]) (g := gName 3) (by rfl) nd rfl rfl (sw_true rfl rfl rfl (by decide +kernel)) (pi_K (K := K) rfl (pv 1)) (blkOk_by (N := N_L_due) (sc := defScope s_L_due) (by decide +kernel)) (fun _ _ _ _ _ => (pg_name (i := 3) nd rfl (by first | exact Or.inl rfl | exact Or.inr rfl))) (fun _ _ _ _ _ => pts_nil) (fun _ _ _ _ _ => (pe_ix (ix_K (K := K) rfl) (pv 3) pe_int (fun _ _ => rfl))))
      (pss_one (ps_ret (pe_ifExp (PW.pt (pw_and (pt_cmpR (op_eqK (K := K) rfl hu64) (pe_call (ok_L_in_order T) (hr.mono (by decide)) rfl T.L_in_order.g T.L_in_order.F.kp (b_L_in_order T) .nil px0 (pa_cons (pv 2) pa_nil)) (pv 2) (nomark _)) (pw_and1 (pt_cmpR op_lt (pe_callB (cr_lenK (K := K) rfl) (by rfl) T.m_len PySem.boot_len (pa_cons (pv 2) pa_nil)) pe_int (nomark _))))) (pv 1) pe_str)))))), fun ds kk xx hl h => ?_⟩
  try dsimp only [cxOf]
  rcases h with ⟨v, rfl, hv, hs, hk⟩ | ⟨l, rfl, hl9, hu, hB, hw, hk⟩
  · walk_at "go"
    refine XC.isT hv (by simp) ?_
    rw [hs]
    walk_at "go"
    exact hk
  · have hpl := spl1_len 32 l
    walk_at "go"
    refine XC.isT rfl (by simp) ?_
    walk_at "go"
    walk_at "call"
    refine XA.cons (XE.m1 ?_)
    walk_at "go"
    refine ⟨⟨_, rfl⟩, ?_⟩
    walk_at "go"
    refine XM.split (a := S l) (b := " ") rfl (lenS (by omega)) ?_
    rw [lit_space, split_c (by decide), map_map']
    walk_at "go"
    refine ⟨rfl, spl1 32 l, rfl, by omega, fun w hw => ⟨by have := spl1_mem hw; omega, hu.spl hw⟩, ?_⟩
    unfold saidD at hk
    cases hks : knotsOf (spl1 32 l) with
    | none =>
      rw [hks] at hk
      simp only [dO]
      walk_at "go"
      exact hk
    | some ks =>
      rw [hks] at hk
      have hBk := hB ks hks
      simp only [dO]
      walk_at "go"
      have hlen : ks.length ≤ 1000000 := by
        have e : allSome ((spl1 32 l).map knotOf) = some ks := by
          have := hks
          unfold knotsOf at this
          rw [if_neg (spl1_ne 32 l)] at this
          exact this
        have := congrArg List.length (allSome_iff.mp e)
        rw [List.length_map, List.length_map] at this
        omega
      have hne : ks ≠ [] := fun z => by
        have e : allSome ((spl1 32 l).map knotOf) = some ks := by
          have := hks
          unfold knotsOf at this
          rw [if_neg (spl1_ne 32 l)] at this
          exact this
        have := congrArg List.length (allSome_iff.mp e)
        rw [List.length_map, List.length_map, z] at this
        exact spl1_ne 32 l (List.length_eq_zero_iff.mp this)
      refine XE.lcMap dKn (fun q => dQ q.1) dKn_inj (XI.U ?_)
      walk_at "go"
      refine ⟨_, .lst, ks, rfl, by omega, fun q hq => ?_, ?_⟩
      · walk_at "go"
        exact ⟨rfl, rfl⟩
      rw [← map_map' dQ (fun q : Kn => q.1)]
      walk_at "go"
      walk_at "call"
      walk_at "go"
      refine ⟨rfl, ks.map (·.1), 200, rfl, fun q hq => ?_, by decide, by decide, by rw [List.length_map]; exact hlen, fun rs hA hI hN hL hP => ?_⟩
      · obtain ⟨z, hz, rfl⟩ := List.mem_map.mp hq
        exact (hBk z hz).1
      walk_at "go"
      refine XR.eqD (n := 2) (m := 2) .self .self (okD_map (n := 1) dQ_ok _) (okD_map (n := 1) dQ_ok _) (by decide) (by decide) ?_
      have e : PyData.eqv (D.lst (rs.map dQ)).py (D.lst ((ks.map (·.1)).map dQ)).py = decide (rs = ks.map (·.1)) := (eqv_maps (e := dQ) (fun _ => rfl) (fun _ _ => dQ_py_inj) rs (ks.map (fun q : Kn => q.1))).trans (decide_eq_decide.mpr Iff.rfl)
      rw [e]
      walk_at "go"
      refine ⟨fun hb => ?_, fun hb => ?_⟩
      · have hb := of_decide_eq_true hb
        have hasc : Asc ks := asc_fst.mpr (hb ▸ asc_pair hA)
        walk_at "go"
        refine XC.len .lst ?_
        rw [List.length_map, List.length_map]
        walk_at "go"
        refine ⟨fun hc => ?_, fun hc => ?_⟩
        · have hc := of_decide_eq_true hc
          walk_at "go"
          simp only [if_pos (show Good ks from ⟨hne, hasc, by omega⟩)] at hk
          exact hk
        · have hc := of_decide_eq_false hc
          walk_at "go"
          simp only [if_neg (show ¬ Good ks from fun g => by have := g.2.2; omega)] at hk
          exact hk
      · have hb := of_decide_eq_false hb
        walk_at "go"
        simp only [if_neg (show ¬ Good ks from fun g => hb (hP (asc_fst.mp g.2.1)))] at hk
        exact hk
end
end My

namespace My
open PySem L2 DL PyProof.Rows SX
local macro_rules | `(tactic| walk_at "go") => `(tactic| repeat (first
  | ((with_reducible refine idE ?_); first
    | ((with_reducible apply XE.var); · exact rfl)
    | (with_reducible first
      | refine XE.op ?_
      | refine XE.int ?_
      | refine XE.str ?_
      | refine XE.ite ?_
      | refine XE.cb ?_
      | refine XE.tup ?_
      | refine XE.bl ?_
      | refine XE.non ?_
      | refine XE.ty ?_
      | refine XE.un ?_
      | refine XE.andV ?_
      | refine XE.orV ?_
      | refine XE.notV ?_
      | refine XE.slice ?_
      | refine XE.chain ?_))
  | ((with_reducible refine idA ?_); with_reducible first
      | refine XA.nil ?_
      | refine XA.cons ?_)
  | ((with_reducible refine idR ?_); first
      | (with_reducible first
        | refine XR.add_int ?_
        | refine XR.eq_int ?_
        | refine XR.ne_int ?_
        | refine XR.i0 ?_
        | refine XR.b0 ?_
        | refine XR.isN ?_
        | refine XR.ntN ?_)
      | refine XR.ix_tup rfl ?_
      | refine XR.ix_lst (by first | exact LsAt.lst | exact LsAt.raw At.hd) rfl ?_)
  | ((with_reducible refine idS ?_); with_reducible first
      | refine XS.seq ?_
      | refine XS.asg ?_
      | refine XS.ret ?_
      | refine XS.ifs ?_
      | refine XS.next ?_
      | refine XS.drop ?_
      | refine XS.par ?_)
  | ((with_reducible refine idT ?_); with_reducible first
      | refine XT.tst ?_
      | refine XT.bool ?_
      | refine XT.and ?_
      | refine XT.or ?_
      | refine XT.not ?_)
  | with_reducible refine ex1 ?_
  | refine pickF rfl ?_
  | refine pickT rfl ?_
  | ((with_reducible refine idO ?_); with_reducible first
      | refine XO.none ?_
      | refine XO.some ?_)
  | ((with_reducible refine idGs ?_); with_reducible first
      | refine XGs.nil ?_
      | refine XGs.cons ?_)
  | ((with_reducible refine idG ?_); with_reducible first
      | refine XG.name (by simp) ?_
      | refine XG.tup rfl ?_)
  | with_reducible refine XC.abs ?_
  | with_reducible refine XU.neg ?_
  | refine ⟨_, _, rfl, ?_⟩
  | refine ⟨_, rfl, ?_⟩
  | refine ⟨show (_ : Nat) + 1 ≤ 16000000 by simp only [List.length_cons, List.length_nil] <;> decide, ?_⟩
  | dsimp only))
local macro_rules | `(tactic| walk_at "sp") => `(tactic| first | refine ⟨[], _, rfl, rfl, ?_⟩ | refine ⟨rfl, ?_⟩)

def sp_L_spoilt_text : DSp := fun ds M k _ => ∃ (s l : Addr) (n : Nat) (t : List Nat), ds = [.raw s, .str (S t)] ∧ IsSt s l n M ∧ n + 4 ≤ 1000000000 ∧ t.length ≤ 400000 ∧ Uni t ∧ ∀ (r : List Nat) M', r.length ≤ 2 * t.length + 1 → Uni r → IsSt s l (n + 4) M' → k (.str (S r)) M'
theorem mo_L_spoilt_text : MonoD sp_L_spoilt_text := fun _ _ _ _ _ _ hk _ ⟨s, l, n, t, e, e2, h1, h2, h3, q⟩ => ⟨s, l, n, t, e, e2, h1, h2, h3, fun r M' a b d => hk _ _ (q r M' a b d)⟩
local macro_rules | `(tactic| walk_at "mo") => `(tactic| first | exact mo_L_draw | exact mo_L_pick)
local macro_rules | `(tactic| walk_at "callD") => `(tactic| (refine XE.call (by walk_at "mo") (fun _ => rfl) (dD := []) (fun _ => .nil) ?_))
def lSigns : List Nat := [48,49,50,51,52,53,54,55,56,57,45,47,58,44,32,97,98,122,46,43,65]
theorem lit_signs : ("0123456789-/:, abz.+A" : Str) = S lSigns := rfl
theorem sign_in {x : D} (h : x ∈ ((S lSigns).cps.toList.map fun c => D.str ⟨#[c]⟩) ++ [D.str "\n"]) : ∃ c, c < 0x110000 ∧ x = .str (S [c]) := by
  rcases List.mem_append.mp h with h | h
  · obtain ⟨c, hc, rfl⟩ := List.mem_map.mp h
    refine ⟨c, ?_, rfl⟩
    have hc : c ∈ lSigns := hc
    have : ∀ c ∈ lSigns, c < 0x110000 := by decide
    exact this c hc
  · rw [List.mem_singleton.mp h]
    exact ⟨10, by decide, rfl⟩
section
variable {P : Program} {w : World} {K : PySem.W.Frag} {mg : Str → Option Value} {base : Heap}
theorem ok_L_spoilt_text (T : Txt K mg) : FnOk P w K mg base (L2.CX P w) 4 T.L_spoilt_text.a T.L_spoilt_text.fd ["state", "text"] (spD K 2 (sp_L_spoilt_text)) := by
  refine fn_okD T.L_spoilt_text.F sc_L_spoilt_text rfl fun cdv A outer s H E hr => ?_
  have nd := sc_L_spoilt_text.nd
  have hu64 := hr.units
  have hu65 := hu65_of hr
  have hu1 := hu_of hr
  refine ⟨_, (pss_cons (ps_par (i := 2) (j := 3) rfl nd rfl rfl (by decide) rfl rfl (pa_cons (pe_call (ok_L_draw T) (hr.mono (by decide)) rfl T.L_draw.g T.L_draw.F.kp (b_L_draw T) .nil px0 (pa_cons (pv 0) (pa_cons (pe_op (op_addK (K := K) rfl) (pe_callB (cr_lenK (K := K) rfl) (by rfl) T.m_len PySem.boot_len (pa_cons (pv 1) pa_nil)) pe_int) pa_nil))) (pa_cons (pe_call (ok_L_draw T) (hr.mono (by decide)) rfl T.L_draw.g T.L_draw.F.kp (b_L_draw T) .nil px0 (pa_cons (pv 0) (pa_cons pe_int pa_nil))) pa_nil)) (by rfl))
      (pss_cons (ps_par (i := 4) (j := 5) rfl nd rfl rfl (by decide) rfl rfl (pa_cons (pe_call (ok_L_pick T) (hr.mono (by decide)) rfl T.L_pick.g T.L_pick.F.kp (b_L_pick T) .nil px0 (pa_cons (pv 0) (pa_cons (pe_op (op_addK (K := K) rfl) (pe_callTy (cr_lstS rfl) (by rfl) T.m_list boot_list (pa_cons pe_str pa_nil)) (pe_lst (pa_cons pe_str pa_nil))) pa_nil))) (pa_cons (pe_call (ok_L_draw T) (hr.mono (by decide)) rfl T.L_draw.g T.L_draw.F.kp (b_L_draw T) .nil px0 (pa_cons (pv 0) (pa_cons (pe_op (op_addK (K := K) rfl) (pe_callB (cr_lenK (K := K) rfl) (by rfl) T.m_len PySem.boot_len (pa_cons (pv 1) pa_nil)) pe_int) pa_nil))) pa_nil)) (by rfl))
      (pss_cons (ps_if (pt_cmpR op_lt (pv 3) pe_int (nomark _))
      (pss_one (ps_ret (pe_op (op_addK (K := K) rfl) (pe_op (op_addK (K := K) rfl) (pe_slice (sl_K (K := K) rfl) (pv 1) po_none (po_some (pv 2))) (pv 4)) (pe_slice (sl_K (K := K) rfl) (pv 1) (po_some (pe_op (op_addK (K := K) rfl) (pv 2) pe_int)) po_none))))
      pss_nil)
      (pss_cons (ps_if (pt_cmpR op_lt (pv 3) pe_int (nomark _))
      (pss_one (ps_ret (pe_op (op_addK (K := K) rfl) (pe_op (op_addK (K := K) rfl) (pe_slice (sl_K (K := K) rfl) (pv 1) po_none (po_some (pv 2))) (pv 4)) (pe_slice (sl_K (K := K) rfl) (pv 1) (po_some (pv 2)) po_none))))
      pss_nil)
      (pss_cons (ps_if (pt_cmpR (op_eqK (K := K) rfl hu64) (pv 3) pe_int (nomark _))
      (pss_one (ps_ret (pe_op (op_addK (K := K) rfl) (pe_slice (sl_K (K := K) rfl) (pv 1) po_none (po_some (pv 2))) (pe_slice (sl_K (K := K) rfl) (pv 1) (po_some (pe_op (op_addK (K := K) rfl) (pv 2) pe_int)) po_none))))
      pss_nil)
      (pss_one (ps_ret (pe_op (op_addK (K := K) rfl) (pe_slice (sl_K (K := K) rfl) (pv 1) po_none (po_some (pe_callB (cr_max2 rfl) (by rfl) T.m_max boot_max (pa_cons (pv 2) (pa_cons (pv 5) pa_nil))))) (pe_slice (sl_K (K := K) rfl) (pv 1) (po_some (pe_callB (cr_min2 rfl) (by rfl) T.m_min boot_min (pa_cons (pv 2) (pa_cons (pv 5) pa_nil)))) po_none))))))))), fun ds M kk xx hl h => ?_⟩
  try dsimp only [cxOf]
  obtain ⟨s, l, n, t, rfl, hS, hn, ht, hu, hk⟩ := h
  walk_at "go"
  walk_at "callD"
  walk_at "go"
  refine XC.len_str (lenS (by omega)) ?_
  rw [SX.S_len]
  walk_at "go"
  refine ⟨[], _, rfl, rfl, s, l, n, _, rfl, hS, by omega, by omega, by omega, fun a M1 a0 a1 hS1 => ?_⟩
  walk_at "go"
  walk_at "callD"
  walk_at "go"
  refine ⟨rfl, s, l, _, _, rfl, hS1, by omega, by decide, by decide, fun way M2 w0 w1 hS2 => ?_⟩
  walk_at "go"
  walk_at "callD"
  walk_at "go"
  refine XC.lstS (by decide) ?_
  refine XE.lstF ?_
  walk_at "go"
  refine XR.add_lst .lst .lst (by decide) ?_
  rw [lit_signs]
  walk_at "go"
  refine ⟨rfl, s, l, _, _, _, rfl, hS2, by omega, .inl rfl, by simp, by decide, fun x M3 hx hS3 => ?_⟩
  obtain ⟨c, hc, rfl⟩ := sign_in hx
  walk_at "go"
  walk_at "callD"
  walk_at "go"
  refine XC.len_str (lenS (by omega)) ?_
  rw [SX.S_len]
  walk_at "go"
  refine ⟨rfl, s, l, _, _, rfl, hS3, by omega, by omega, by omega, fun to M4 t0 t1 hS4 => ?_⟩
  obtain ⟨a, rfl⟩ := Int.eq_ofNat_of_zero_le a0
  obtain ⟨b, rfl⟩ := Int.eq_ofNat_of_zero_le t0
  have hcu : Uni [c] := fun d hd => by rw [List.mem_singleton.mp hd]; exact hc
  have hS5 := hS4.more (m := n + 4) (by omega) (by omega)
  have e1 : ((a : Nat) : Int) + 1 = ((a + 1 : Nat) : Int) := by omega
  walk_at "go"
  refine ⟨fun hb => ?_, fun hb => ?_⟩
  · walk_at "go"
    refine XSl.str (lenS (by omega)) ?_
    rw [cutS_to]
    refine XE.var rfl ?_
    refine XR.add_str (by rw [SX.S_len, SX.S_len, List.length_take]; simp only [List.length_cons, List.length_nil]; omega) ?_
    rw [SX.S_cat]
    walk_at "go"
    refine XSl.str (lenS (by omega)) ?_
    rw [e1, cutS_from]
    refine XR.add_str (by rw [SX.S_len, SX.S_len, List.length_append, List.length_take, List.length_drop]; simp only [List.length_cons, List.length_nil]; omega) ?_
    rw [SX.S_cat]
    refine hk _ _ ?_ (((hu.take _).app hcu).app (hu.drop _)) hS5
    simp only [List.length_append, List.length_take, List.length_drop, List.length_cons, List.length_nil]
    omega
  walk_at "go"
  refine ⟨fun hb2 => ?_, fun hb2 => ?_⟩
  · walk_at "go"
    refine XSl.str (lenS (by omega)) ?_
    rw [cutS_to]
    refine XE.var rfl ?_
    refine XR.add_str (by rw [SX.S_len, SX.S_len, List.length_take]; simp only [List.length_cons, List.length_nil]; omega) ?_
    rw [SX.S_cat]
    walk_at "go"
    refine XSl.str (lenS (by omega)) ?_
    rw [cutS_from]
    refine XR.add_str (by rw [SX.S_len, SX.S_len, List.length_append, List.length_take, List.length_drop]; simp only [List.length_cons, List.length_nil]; omega) ?_
    rw [SX.S_cat]
    refine hk _ _ ?_ (((hu.take _).app hcu).app (hu.drop _)) hS5
    simp only [List.length_append, List.length_take, List.length_drop, List.length_cons, List.length_nil]
    omega
  walk_at "go"
  refine ⟨fun hb3 => ?_, fun hb3 => ?_⟩
  · walk_at "go"
    refine XSl.str (lenS (by omega)) ?_
    rw [cutS_to]
    walk_at "go"
    refine XSl.str (lenS (by omega)) ?_
    rw [e1, cutS_from]
    refine XR.add_str (by rw [SX.S_len, SX.S_len, List.length_take, List.length_drop]; omega) ?_
    rw [SX.S_cat]
    refine hk _ _ ?_ ((hu.take _).app (hu.drop _)) hS5
    simp only [List.length_append, List.length_take, List.length_drop]
    omega
  walk_at "go"
  refine XC.max2 ?_
  have e2 : max ((a : Nat) : Int) ((b : Nat) : Int) = ((max a b : Nat) : Int) := by omega
  have e3 : min ((a : Nat) : Int) ((b : Nat) : Int) = ((min a b : Nat) : Int) := by omega
  rw [e2]
  walk_at "go"
  refine XSl.str (lenS (by omega)) ?_
  rw [cutS_to]
  walk_at "go"
  refine XC.min2 ?_
  rw [e3]
  walk_at "go"
  refine XSl.str (lenS (by omega)) ?_
  rw [cutS_from]
  refine XR.add_str (by rw [SX.S_len, SX.S_len, List.length_take, List.length_drop]; omega) ?_
  rw [SX.S_cat]
  refine hk _ _ ?_ ((hu.take _).app (hu.drop _)) hS5
  simp only [List.length_append, List.length_take, List.length_drop]
  omega
end
end My

namespace My
open PySem L2 DL PyProof.Rows SX
local macro_rules | `(tactic| walk_at "go") => `(tactic| repeat (first
  | ((with_reducible refine idE ?_); first
    | ((with_reducible apply XE.var); · exact rfl)
    | (with_reducible first
      | refine XE.op ?_
      | refine XE.int ?_
      | refine XE.str ?_
      | refine XE.ite ?_
      | refine XE.cb ?_
      | refine XE.tup ?_
      | refine XE.bl ?_
      | refine XE.non ?_
      | refine XE.ty ?_
      | refine XE.un ?_
      | refine XE.andV ?_
      | refine XE.orV ?_
      | refine XE.notV ?_
      | refine XE.slice ?_
      | refine XE.chain ?_))
  | ((with_reducible refine idA ?_); with_reducible first
      | refine XA.nil ?_
      | refine XA.cons ?_)
  | ((with_reducible refine idR ?_); first
      | (with_reducible first
        | refine XR.add_int ?_
        | refine XR.eq_int ?_
        | refine XR.ne_int ?_
        | refine XR.i0 ?_
        | refine XR.b0 ?_
        | refine XR.isN ?_
        | refine XR.ntN ?_)
      | refine XR.ix_tup rfl ?_
      | refine XR.ix_lst (by first | exact LsAt.lst | exact LsAt.raw At.hd) rfl ?_)
  | ((with_reducible refine idS ?_); with_reducible first
      | refine XS.seq ?_
      | refine XS.asg ?_
      | refine XS.ret ?_
      | refine XS.ifs ?_
      | refine XS.next ?_
      | refine XS.drop ?_
      | refine XS.par ?_)
  | ((with_reducible refine idT ?_); with_reducible first
      | refine XT.tst ?_
      | refine XT.bool ?_
      | refine XT.and ?_
      | refine XT.or ?_
      | refine XT.not ?_)
  | with_reducible refine ex1 ?_
  | refine pickF rfl ?_
  | refine pickT rfl ?_
  | ((with_reducible refine idO ?_); with_reducible first
      | refine XO.none ?_
      | refine XO.some ?_)
  | ((with_reducible refine idGs ?_); with_reducible first
      | refine XGs.nil ?_
      | refine XGs.cons ?_)
  | ((with_reducible refine idG ?_); with_reducible first
      | refine XG.name (by simp) ?_
      | refine XG.tup rfl ?_)
  | with_reducible refine XC.abs ?_
  | with_reducible refine XU.neg ?_
  | refine ⟨_, _, rfl, ?_⟩
  | refine ⟨_, rfl, ?_⟩
  | refine ⟨show (_ : Nat) + 1 ≤ 16000000 by simp only [List.length_cons, List.length_nil] <;> decide, ?_⟩
  | dsimp only))
local macro_rules | `(tactic| walk_at "sp") => `(tactic| first | refine ⟨[], _, rfl, rfl, ?_⟩ | refine ⟨rfl, ?_⟩)

def sp_L_whole_text : DSp := fun ds M k _ => ∃ (s l : Addr) (n : Nat), ds = [.raw s] ∧ IsSt s l n M ∧ n + 10000 ≤ 1000000000 ∧ ∀ (r : List Nat) M', r.length ≤ 12000 → Uni r → IsSt s l (n + 10000) M' → k (.str (S r)) M'
theorem mo_L_whole_text : MonoD sp_L_whole_text := fun _ _ _ _ _ _ hk _ ⟨s, l, n, e, e2, h1, q⟩ => ⟨s, l, n, e, e2, h1, fun r M' a b d => hk _ _ (q r M' a b d)⟩
local macro_rules | `(tactic| walk_at "mo") => `(tactic| first | exact mo_L_draw | exact mo_L_pick | exact mo_L_any_fraction | exact mo_L_in_order | exact mo_L_frac | exact mo_L_knot_text)
local macro_rules | `(tactic| walk_at "callD") => `(tactic| (refine XE.call (by walk_at "mo") (fun _ => rfl) (dD := []) (fun _ => .nil) ?_))
local macro_rules | `(tactic| walk_at "call") => `(tactic| (refine XE.callP (by walk_at "mo") (fun _ => rfl) (dD := []) (fun _ => .nil) ?_))
theorem short_small {n d : Int} (hn : n.natAbs < 100) (hd : d.natAbs < 100) (h0 : d ≠ 0) : Short (Rat.divInt n d) := by
  have h1 := divInt_num_abs n d
  have h2 := divInt_den_le n d h0
  have e : (100 : Nat) < 10 ^ 60 := by decide
  exact ⟨by omega, by omega⟩
theorem short_int {i : Int} (h : i.natAbs < 100) : Short (i : Rat) := by
  have e : (100 : Nat) < 10 ^ 60 := by decide
  exact ⟨by show i.natAbs < _; omega, by show 1 < _; omega⟩
section
variable {P : Program} {w : World} {K : PySem.W.Frag} {mg : Str → Option Value} {base : Heap}
theorem ok_L_whole_text (T : Txt K mg) : FnOk P w K mg base (L2.CX P w) 6 T.L_whole_text.a T.L_whole_text.fd ["state"] (spD K 1 (sp_L_whole_text)) := by
  refine fn_okD T.L_whole_text.F sc_L_whole_text rfl fun cdv A outer s H E hr => ?_
  have nd := sc_L_whole_text.nd
  have hu64 := hr.units
  have hu65 := hu65_of hr
  have hu1 := hu_of hr
  refine ⟨_, (pss_cons (ps_set (i := 1) nd rfl (by first | exact Or.inl rfl | exact Or.inr rfl) (pe_lc (own := [("turn", 5)]) (g := gName 5) (by rfl) nd (pi_range1 rfl T.m_range (pa_cons pe_int pa_nil)) (blkOk_by (N := N_L_whole_text) (sc := defScope s_L_whole_text) (by decide +kernel)) (fun _ _ _ _ _ => (pg_name (i := 5) nd rfl (by first | exact Or.inl rfl | exact Or.inr rfl))) (fun _ _ _ _ _ => pts_nil) (fun _ _ _ _ _ => (pe_call (ok_L_frac T) (hr.mono (by decide)) rfl T.L_frac.g T.L_frac.F.kp (b_L_frac T) .nil passL (pa_cons (pe_op op_sub (pe_call (ok_L_draw T) (hr.mono (by decide)) rfl T.L_draw.g T.L_draw.F.kp (b_L_draw T) .nil passL (pa_cons (pv 0) (pa_cons pe_int pa_nil))) pe_int) (pa_cons (pe_op (op_addK (K := K) rfl) pe_int (pe_call (ok_L_draw T) (hr.mono (by decide)) rfl T.L_draw.g T.L_draw.F.kp (b_L_draw T) .nil passL (pa_cons (pv 0) (pa_cons pe_int pa_nil)))) pa_nil))))))
      (pss_cons (ps_set (i := 2) nd rfl (by first | exact Or.inl rfl | exact Or.inr rfl) (pe_call (ok_L_in_order T) (hr.mono (by decide)) rfl T.L_in_order.g T.L_in_order.F.kp (b_L_in_order T) .nil px0 (pa_cons (pe_slice (sl_K (K := K) rfl) (pv 1) po_none (po_some (pe_op (op_addK (K := K) rfl) pe_int (pe_call (ok_L_draw T) (hr.mono (by decide)) rfl T.L_draw.g T.L_draw.F.kp (b_L_draw T) .nil px0 (pa_cons (pv 0) (pa_cons pe_int pa_nil)))))) pa_nil)))
      (pss_cons (ps_set (i := 3) nd rfl (by first | exact Or.inl rfl | exact Or.inr rfl) (pe_call (ok_L_draw T) (hr.mono (by decide)) rfl T.L_draw.g T.L_draw.F.kp (b_L_draw T) .nil px0 (pa_cons (pv 0) (pa_cons pe_int pa_nil))))
      (pss_cons (ps_if (pt_cmpR (op_eqK (K := K) rfl hu64) (pv 3) pe_int (nomark _))
      (pss_one (ps_set (i := 2) nd rfl (by first | exact Or.inl rfl | exact Or.inr rfl) (pe_revK (K := K) rfl (pv 2))))
      pss_nil)
      (pss_cons (ps_if (pt_cmpR (op_eqK (K := K) rfl hu64) (pv 3) pe_int (nomark _))
      (pss_one (ps_setLc (i := 2) (own := [("k", 6)]) (g := gName 6) (by rfl) nd rfl rfl (sw_true rfl rfl rfl (by decide +kernel)) (pi_range1 rfl T.m_range (pa_cons (pe_op (op_addK (K := K) rfl) pe_int (pe_call (ok_L_draw T) (hr.mono (by decide)) rfl T.L_draw.g T.L_draw.F.kp (b_L_draw T) .nil px0 (pa_cons (pv 0) (pa_cons pe_int pa_nil)))) pa_nil)) (blkOk_by (N := N_L_whole_text) (sc := defScope s_L_whole_text) (by decide +kernel)) (fun _ _ _ _ _ => (pg_name (i := 6) nd rfl (by first | exact Or.inl rfl | exact Or.inr rfl))) (fun _ _ _ _ _ => pts_nil) (fun _ _ _ _ _ => (pe_tup (pa_cons (pv 6) (pa_cons pe_int pa_nil))))))
      pss_nil)
      (pss_cons (ps_if (pt_cmpR (op_eqK (K := K) rfl hu64) (pv 3) pe_int (nomark _))
      (pss_one (ps_set (i := 2) nd rfl (by first | exact Or.inl rfl | exact Or.inr rfl) (pe_op (op_addK (K := K) rfl) (pv 2) (pe_lst (pa_cons (pe_call (ok_L_any_fraction T) (hr.mono (by decide)) rfl T.L_any_fraction.g T.L_any_fraction.F.kp (b_L_any_fraction T) .nil px0 (pa_cons (pv 0) pa_nil)) pa_nil)))))
      pss_nil)
      (pss_cons (ps_setLc (i := 4) (own := [("k", 6), ("time", 7)]) (by rfl) nd rfl rfl (sw_true rfl rfl rfl (by decide +kernel)) (pi_enumK (K := K) rfl (by rfl) T.m_enumerate (pa_cons (pv 2) pa_nil)) (blkOk_by (N := N_L_whole_text) (sc := defScope s_L_whole_text) (by decide +kernel)) (fun _ _ _ _ _ => (pg_tupK (K := K) (n := 2) rfl rfl (pgs_cons (pg_name (i := 6) nd rfl (by first | exact Or.inl rfl | exact Or.inr rfl)) (pgs_cons (pg_name (i := 7) nd rfl (by first | exact Or.inl rfl | exact Or.inr rfl)) pgs_nil)))) (fun _ _ _ _ _ => pts_nil) (fun _ _ _ _ _ => (pe_tup (pa_cons (pv 7) (pa_cons (pe_ifExp (pt_cmpR (op_eqK (K := K) rfl hu64) (pv 6) pe_int (nomark _)) (pe_call (ok_L_any_fraction T) (hr.mono (by decide)) rfl T.L_any_fraction.g T.L_any_fraction.F.kp (b_L_any_fraction T) .nil passL (pa_cons (pv 0) pa_nil)) (pe_call (ok_L_pick T) (hr.mono (by decide)) rfl T.L_pick.g T.L_pick.F.kp (b_L_pick T) .nil passL (pa_cons (pv 0) (pa_cons (pv 1) pa_nil)))) pa_nil)))))
      (pss_one (ps_ret (pe_joinK (K := K) rfl pe_str (pe_lc (own := [("knot", 8)]) (g := gName 8) (by rfl) nd (pi_K (K := K) rfl (pv 4)) (blkOk_by (N := N_L_whole_text) (sc := defScope s_L_whole_text) (by decide +kernel)) (fun _ _ _ _ _ => (pg_name (i := 8) nd rfl (by first | exact Or.inl rfl | exact Or.inr rfl))) (fun _ _ _ _ _ => pts_nil) (fun _ _ _ _ _ => (pe_call (ok_L_knot_text T) (hr.mono (by decide)) rfl T.L_knot_text.g T.L_knot_text.F.kp (b_L_knot_text T) .nil passL (pa_cons (pv 8) pa_nil)))))))))))))), fun ds M kk xx hl h => ?_⟩
  try dsimp only [cxOf]
  obtain ⟨s, l, n, rfl, hS, hn, hk⟩ := h
  walk_at "go"
  refine XE.lcG false (XI.rng1 ?_)
  walk_at "go"
  refine ⟨by decide, by decide, fun i acc M => ∃ qs : List Rat, acc = qs.map dQ ∧ qs.length = i ∧ (∀ q ∈ qs, Short q) ∧ IsSt s l (n + 2 * i) M, ⟨[], rfl, rfl, by simp, hS⟩, ?_, ?_⟩
  · rintro i x acc M hx ⟨qs, rfl, hq, hSh, hS2⟩
    rw [rngD_get] at hx
    split at hx
    rotate_left
    · cases hx
    rename_i hi
    have hi : i < 5 := hi
    cases hx
    walk_at "go"
    refine XT.yes (pickT rfl ?_)
    walk_at "go"
    walk_at "call"
    walk_at "go"
    walk_at "callD"
    walk_at "go"
    walk_at "sp"
    refine ⟨s, l, _, _, rfl, hS2, by omega, by decide, by decide, fun a M1 a0 a1 hS3 => ?_⟩
    walk_at "go"
    walk_at "callD"
    walk_at "go"
    walk_at "sp"
    refine ⟨s, l, _, _, rfl, hS3, by omega, by decide, by decide, fun b M2 b0 b1 hS4 => ?_⟩
    walk_at "go"
    have hB : B 8 (1 + b) := by
      show (1 + b).natAbs < 2 ^ 8
      omega
    refine ⟨rfl, a - 9, 1 + b, 8, rfl, by omega, hB, by decide, by decide, ?_⟩
    refine ⟨by rw [List.length_map]; omega, qs ++ [Rat.divInt (a - 9) (1 + b)], by simp, by simp [hq], fun r hr => ?_, ?_⟩
    · rcases List.mem_append.mp hr with hr | hr
      · exact hSh r hr
      · rw [List.mem_singleton.mp hr]
        exact short_small (by omega) (by omega) (by omega)
    · exact hS4.more (by omega) (by omega)
  rintro acc M ⟨qs, rfl, hq, hSh, hS1⟩
  have hq : qs.length = 5 := hq
  have hS1 : IsSt s l (n + 10) M := hS1
  rw [if_neg (by decide)]
  walk_at "go"
  walk_at "call"
  walk_at "go"
  walk_at "callD"
  walk_at "go"
  walk_at "sp"
  refine ⟨s, l, _, _, rfl, hS1, by omega, by decide, by decide, fun a M1 a0 a1 hS2 => ?_⟩
  obtain ⟨a, rfl⟩ := Int.eq_ofNat_of_zero_le a0
  walk_at "go"
  refine XSl.lst .lst ?_
  have e1 : (1 : Int) + ((a : Nat) : Int) = ((1 + a : Nat) : Int) := by omega
  rw [e1, cutD_to, ← List.map_take]
  walk_at "go"
  refine ⟨rfl, qs.take (1 + a), 200, rfl, fun q h => (hSh q (List.mem_of_mem_take h)).B, by decide, by decide, by rw [List.length_take]; omega, fun ts hA hI hN hL _ => ?_⟩
  have hT : (∀ q ∈ ts, Short q) ∧ ts.length ≤ 5 := ⟨fun q h => hSh q (List.mem_of_mem_take (hI q h)), by rw [List.length_take] at hL; omega⟩
  walk_at "go"
  walk_at "callD"
  walk_at "go"
  walk_at "sp"
  refine ⟨s, l, _, _, rfl, hS2, by omega, by decide, by decide, fun way M2 w0 w1 hS3 => ?_⟩
  refine XS.cut (fun ds M => (∃ ts : List Rat, ds = [some (.raw s), some (.lst (qs.map dQ)), some (.lst (ts.map dQ)), some (.int way), none, none, none, none, none] ∧ (∀ q ∈ ts, Short q) ∧ ts.length ≤ 5) ∧ M = M2) (XS.ifs ?_) ?_
  · walk_at "go"
    refine ⟨fun hb => ?_, fun hb => ?_⟩
    · walk_at "go"
      refine XE.rev ?_
      walk_at "go"
      refine ⟨_, .lst, ?_⟩
      rw [← List.map_reverse]
      exact ⟨⟨ts.reverse, rfl, fun q h => hT.1 q (List.mem_reverse.mp h), by rw [List.length_reverse]; exact hT.2⟩, rfl⟩
    · walk_at "go"
      exact ⟨⟨ts, rfl, hT⟩, rfl⟩
  rintro _ _ ⟨⟨ts, rfl, hT⟩, rfl⟩
  refine XS.cut (fun ds M => (∃ ts : List Rat, ds = [some (.raw s), some (.lst (qs.map dQ)), some (.lst (ts.map dQ)), some (.int way), none, none, none, none, none] ∧ (∀ q ∈ ts, Short q) ∧ ts.length ≤ 41) ∧ IsSt s l (n + 13) M) (XS.ifs ?_) ?_
  · walk_at "go"
    refine ⟨fun hb => ?_, fun hb => ?_⟩
    · walk_at "go"
      refine XE.lcG false (XI.rng1 ?_)
      walk_at "go"
      walk_at "callD"
      walk_at "go"
      walk_at "sp"
      refine ⟨s, l, _, _, rfl, hS3, by omega, by decide, by decide, fun b M3 b0 b1 hS4 => ?_⟩
      obtain ⟨b, rfl⟩ := Int.eq_ofNat_of_zero_le b0
      walk_at "go"
      have e2 : ((40 : Int) + ((b : Nat) : Int)).toNat = 40 + b := by omega
      rw [e2]
      refine ⟨by omega, by omega, fun i acc M => M = M3 ∧ ∃ us : List Rat, acc = us.map dQ ∧ us.length = i ∧ (∀ q ∈ us, Short q), ⟨rfl, [], rfl, rfl, by simp⟩, ?_, ?_⟩
      · rintro i x acc M hx ⟨rfl, us, rfl, hu, hus⟩
        rw [rngD_get] at hx
        split at hx
        rotate_left
        · cases hx
        rename_i hi
        cases hx
        walk_at "go"
        refine XT.yes (pickT rfl ?_)
        walk_at "go"
        refine ⟨by rw [List.length_map]; omega, rfl, us ++ [((i : Int) : Rat)], ?_, by simp [hu], fun r hr => ?_⟩
        · rw [List.map_append, List.map_cons, List.map_nil, dQ_int]
          simp
        · rcases List.mem_append.mp hr with hr | hr
          · exact hus r hr
          · rw [List.mem_singleton.mp hr]
            exact short_int (by omega)
      rintro acc M ⟨rfl, us, rfl, hu, hus⟩
      rw [rngD_len] at hu
      rw [if_neg (by decide)]
      exact ⟨⟨us, rfl, hus, by omega⟩, hS4.more (by omega) (by omega)⟩
    · walk_at "go"
      exact ⟨⟨ts, rfl, hT.1, by have := hT.2; omega⟩, hS3.more (by omega) (by omega)⟩
  rintro _ M3 ⟨⟨ts, rfl, hT⟩, hS4⟩
  refine XS.cut (fun ds M => (∃ ts : List Rat, ds = [some (.raw s), some (.lst (qs.map dQ)), some (.lst (ts.map dQ)), some (.int way), none, none, none, none, none] ∧ (∀ q ∈ ts, Short q) ∧ ts.length ≤ 42) ∧ IsSt s l (n + 140) M) (XS.ifs ?_) ?_
  · walk_at "go"
    refine ⟨fun hb => ?_, fun hb => ?_⟩
    · walk_at "go"
      refine XE.lstF ?_
      walk_at "go"
      walk_at "callD"
      walk_at "go"
      walk_at "sp"
      refine ⟨s, l, _, rfl, hS4, by omega, fun q M5 hq5 hS5 => ?_⟩
      walk_at "go"
      refine XR.add_lst .lst .lst (by rw [List.length_map]; simp only [List.length_cons, List.length_nil]; omega) ?_
      refine ⟨⟨ts ++ [q], ?_, fun r hr => ?_, by rw [List.length_append]; simp only [List.length_cons, List.length_nil]; omega⟩, hS5.more (by omega) (by omega)⟩
      · rw [List.map_append]
        rfl
      · rcases List.mem_append.mp hr with hr | hr
        · exact hT.1 r hr
        · rw [List.mem_singleton.mp hr]
          exact hq5
    · walk_at "go"
      exact ⟨⟨ts, rfl, hT.1, by have := hT.2; omega⟩, hS4.more (by omega) (by omega)⟩
  rintro _ M4 ⟨⟨ts, rfl, hT⟩, hS5⟩
  walk_at "go"
  refine XE.lcG false (XI.enum ?_)
  walk_at "go"
  refine ⟨_, _, rfl, .inl rfl, fun i acc M => ∃ ks : List Kn, acc = ks.map dKn ∧ ks.length = i ∧ (∀ q ∈ ks, Short q.1 ∧ Short q.2) ∧ IsSt s l (n + 140 + 124 * i) M, ⟨[], rfl, rfl, by simp, hS5⟩, ?_, ?_⟩
  · rintro i x acc M hx ⟨ks, rfl, hkl, hks, hS6⟩
    obtain ⟨d, hd, rfl⟩ := enumD_get hx
    obtain ⟨t, ht, rfl⟩ := map_get hd
    have hi : i < ts.length := (List.getElem?_eq_some_iff.mp ht).1
    have htS := hT.1 t (List.mem_of_getElem? ht)
    walk_at "go"
    refine XT.yes (pickT rfl ?_)
    walk_at "go"
    have step : ∀ (q : Rat) (M' : Mem), Short q → IsSt s l (n + 140 + 124 * (i + 1)) M' → List.length (ks.map dKn) < 16000000 ∧ ∃ ks' : List Kn, ks.map dKn ++ [dKn (t, q)] = ks'.map dKn ∧ ks'.length = i + 1 ∧ (∀ q ∈ ks', Short q.1 ∧ Short q.2) ∧ IsSt s l (n + 140 + 124 * (i + 1)) M' := fun q M' hq hS => by
      refine ⟨by rw [List.length_map]; omega, ks ++ [(t, q)], by simp, by simp [hkl], fun r hr => ?_, hS⟩
      rcases List.mem_append.mp hr with hr | hr
      · exact hks r hr
      · rw [List.mem_singleton.mp hr]
        exact ⟨htS, hq⟩
    refine ⟨fun hb => ?_, fun hb => ?_⟩
    · walk_at "go"
      walk_at "callD"
      walk_at "go"
      walk_at "sp"
      refine ⟨s, l, _, rfl, hS6, by omega, fun q M5 hq5 hS7 => ?_⟩
      walk_at "go"
      exact step q _ hq5 (hS7.more (by omega) (by omega))
    · walk_at "go"
      walk_at "callD"
      walk_at "go"
      walk_at "sp"
      refine ⟨s, l, _, _, _, rfl, hS6, by omega, .inl rfl, (by intro z; have := congrArg List.length z; rw [List.length_map, hq] at this; cases this), by rw [List.length_map]; omega, fun x M5 hx5 hS7 => ?_⟩
      obtain ⟨q, hq5, rfl⟩ := List.mem_map.mp hx5
      walk_at "go"
      exact step q _ (hSh q hq5) (hS7.more (by omega) (by omega))
  rintro acc M ⟨ks, rfl, hkl, hks, hS6⟩
  rw [enumD_len, List.length_map] at hkl hS6
  rw [if_neg (by decide)]
  walk_at "go"
  refine XE.m1 ?_
  walk_at "go"
  refine ⟨⟨_, rfl⟩, ?_⟩
  refine XE.lcMap dKn (fun q => D.str (S (knotL q))) dKn_inj (XI.U ?_)
  walk_at "go"
  refine ⟨_, .lst, ks, rfl, by omega, fun q hq => ?_, ?_⟩
  · walk_at "go"
    walk_at "call"
    walk_at "go"
    refine ⟨rfl, q, rfl, (hks q hq).1, (hks q hq).2, ?_⟩
    exact ⟨rfl, rfl⟩
  rw [← map_map' (fun l => D.str (S l)) knotL, ← map_map' D.str S]
  refine XM.join (ys := (ks.map knotL).map S) .lst ?_ ?_
  · rw [SX.lens, List.length_map, List.length_map]
    have h2 : ((ks.map knotL).map (·.length)).sum ≤ 245 * ((ks.map knotL).map (·.length)).length := sum_le fun p hp => by
      obtain ⟨q, hq, rfl⟩ := List.mem_map.mp hp
      obtain ⟨k, hk, rfl⟩ := List.mem_map.mp hq
      exact knotL_len (hks k hk).1 (hks k hk).2
    rw [List.length_map, List.length_map] at h2
    have e : (" " : Str).length = 1 := rfl
    rw [e]
    omega
  rw [lit_space, SX.join_S, show TL.joinL [32] (ks.map knotL) = tabL ks from rfl]
  have htl := tabL_len hks
  exact hk _ _ (by omega) tabL_uni (hS6.more (by omega) hn)
end
end My

namespace My
open PySem L2 DL PyProof.Rows SX
local macro_rules | `(tactic| walk_at "go") => `(tactic| repeat (first
  | ((with_reducible refine idE ?_); first
    | ((with_reducible apply XE.var); · exact rfl)
    | (with_reducible first
      | refine XE.op ?_
      | refine XE.int ?_
      | refine XE.str ?_
      | refine XE.ite ?_
      | refine XE.cb ?_
      | refine XE.tup ?_
      | refine XE.bl ?_
      | refine XE.non ?_
      | refine XE.ty ?_
      | refine XE.un ?_
      | refine XE.andV ?_
      | refine XE.orV ?_
      | refine XE.notV ?_
      | refine XE.slice ?_
      | refine XE.chain ?_))
  | ((with_reducible refine idA ?_); with_reducible first
      | refine XA.nil ?_
      | refine XA.cons ?_)
  | ((with_reducible refine idR ?_); first
      | (with_reducible first
        | refine XR.add_int ?_
        | refine XR.eq_int ?_
        | refine XR.ne_int ?_
        | refine XR.i0 ?_
        | refine XR.b0 ?_
        | refine XR.isN ?_
        | refine XR.ntN ?_)
      | refine XR.ix_tup rfl ?_
      | refine XR.ix_lst (by first | exact LsAt.lst | exact LsAt.raw At.hd) rfl ?_)
  | ((with_reducible refine idS ?_); with_reducible first
      | refine XS.seq ?_
      | refine XS.asg ?_
      | refine XS.ret ?_
      | refine XS.ifs ?_
      | refine XS.next ?_
      | refine XS.drop ?_
      | refine XS.par ?_)
  | ((with_reducible refine idT ?_); with_reducible first
      | refine XT.tst ?_
      | refine XT.bool ?_
      | refine XT.and ?_
      | refine XT.or ?_
      | refine XT.not ?_)
  | with_reducible refine ex1 ?_
  | refine pickF rfl ?_
  | refine pickT rfl ?_
  | ((with_reducible refine idO ?_); with_reducible first
      | refine XO.none ?_
      | refine XO.some ?_)
  | ((with_reducible refine idGs ?_); with_reducible first
      | refine XGs.nil ?_
      | refine XGs.cons ?_)
  | ((with_reducible refine idG ?_); with_reducible first
      | refine XG.name (by simp) ?_
      | refine XG.tup rfl ?_)
  | with_reducible refine XC.abs ?_
  | with_reducible refine XU.neg ?_
  | refine ⟨_, _, rfl, ?_⟩
  | refine ⟨_, rfl, ?_⟩
  | refine ⟨show (_ : Nat) + 1 ≤ 16000000 by simp only [List.length_cons, List.length_nil] <;> decide, ?_⟩
  | refine ⟨show (0 : Nat) ≤ 16000000 by decide, ?_⟩
  | dsimp only))
local macro_rules | `(tactic| walk_at "sp") => `(tactic| first | refine ⟨[], _, rfl, rfl, ?_⟩ | refine ⟨rfl, ?_⟩)

local macro_rules | `(tactic| walk_at "mo") => `(tactic| first | exact mo_L_begun | exact mo_L_whole_text | exact mo_L_draw | exact mo_L_spoilt_text | exact mo_L_said | exact mo_L_due)
local macro_rules | `(tactic| walk_at "callD") => `(tactic| (refine XE.call (by walk_at "mo") (fun _ => rfl) (dD := []) (fun _ => .nil) ?_))
local macro_rules | `(tactic| walk_at "call") => `(tactic| (refine XE.callP (by walk_at "mo") (fun _ => rfl) (dD := []) (fun _ => .nil) ?_))
theorem read_B {l : List Nat} : ∀ ks, knotsOf (spl1 32 l) = some ks → BKs 200 ks := fun ks h k hk => ⟨(knotsOf_short h k hk).1.B, (knotsOf_short h k hk).2.B⟩
theorem saidD_ok (l : List Nat) : okD 3 (saidD l) = true ∧ Shn 12000 (saidD l) := by
  unfold saidD
  cases h : knotsOf (spl1 32 l) with
  | none => exact ⟨show okD 3 (.str "text0") = true by decide +kernel, show Shn 12000 (.str "text0") from ⟨by decide +kernel, by decide +kernel, by decide +kernel⟩⟩
  | some ks =>
    have hs := knotsOf_short h
    by_cases g : Good ks
    · simp only [if_pos g]
      refine ⟨okD_map (n := 2) dKn_ok _, (Shn.lst (n := 265) fun x hx => ?_).mono ?_⟩
      · obtain ⟨q, hq, rfl⟩ := List.mem_map.mp hx
        exact Shn.dKn (hs q hq).1 (hs q hq).2
      · rw [List.length_map]
        have := g.2.2
        omega
    · simp only [if_neg g]
      exact ⟨show okD 3 (.str "table") = true by decide +kernel, show Shn 12000 (.str "table") from ⟨by decide +kernel, by decide +kernel, by decide +kernel⟩⟩
theorem lit_c0 : (":0" : Str) = S [58, 48] := rfl
theorem lit_01 : ("0:1/" : Str) = S [48, 58, 49, 47] := rfl
theorem lit_0m : ("0:-1/" : Str) = S [48, 58, 45, 49, 47] := rfl
def Odd (d : D) : Prop := (d.tyN.isSome = true ∧ D.isT d "str" = false) ∨ ∃ t, d = .str (S t) ∧ t.length ≤ 10000 ∧ Uni t ∧ knotsOf (spl1 32 t) = none
theorem oddS {x : Str} (h : x.cps.toList.length ≤ 10000) (hu : (x.cps.toList.all fun c => decide (c < 0x110000)) = true) (hk : (knotsOf (spl1 32 x.cps.toList)).isNone = true) : Odd (.str x) :=
  .inr ⟨x.cps.toList, rfl, h, fun c hc => of_decide_eq_true (List.all_eq_true.mp hu c hc), Option.isNone_iff_eq_none.mp hk⟩
theorem long_num (c n : Nat) (h : 60 < n) : DL.numOf (List.replicate n c) = none := by
  unfold DL.numOf
  rw [if_neg]
  rw [List.length_replicate]
  omega
theorem not_rep {c d : Nat} (n : Nat) (h : c ≠ d) : c ∉ List.replicate n d := fun z => h (List.eq_of_mem_replicate z)
theorem long_a {c n : Nat} (h : 60 < n) (hc : c = 57 ∨ c = 55) (hn : n ≤ 9000) : Odd (.str (S (List.replicate n c ++ [58, 48]))) := by
  refine .inr ⟨_, rfl, by rw [List.length_append, List.length_replicate]; simp only [List.length_cons, List.length_nil]; omega, Uni.app (fun d hd => ?_) (fun d hd => ?_), ?_⟩
  · rw [List.eq_of_mem_replicate hd]; omega
  · simp at hd; omega
  · rw [spl1_one (by simp only [List.mem_append, List.mem_cons, List.not_mem_nil]; rintro (z | z); exact not_rep n (by omega) z; exact absurd z (by decide))]
    unfold knotsOf
    rw [if_neg (by simp)]
    have e : knotOf (List.replicate n c ++ [58, 48]) = none := by
      unfold knotOf
      rw [spl1_two _ (not_rep n (by omega))]
      have e2 : fracOf (List.replicate n c) = none := by
        have hneg : isNeg (List.replicate n c) = false := by
          obtain ⟨m, rfl⟩ : ∃ m, n = m + 1 := ⟨n - 1, by omega⟩
          rw [List.replicate_succ]
          show decide (some c = some 45) = false
          rcases hc with rfl | rfl <;> decide
        unfold fracOf bareOf
        rw [hneg]
        simp only [Bool.false_eq_true, if_false]
        rw [spl1_one (not_rep n (by omega)), List.map_cons, long_num c n h]
        rfl
      rw [List.map_cons, e2]
    rw [List.map_cons, e]
    rfl
theorem long_b {p : List Nat} {c n : Nat} (h : 60 < n) (hc : c = 57 ∨ c = 55) (hn : n ≤ 9000) (hp : p = [49] ∨ p = [45, 49]) : Odd (.str (S (48 :: 58 :: (p ++ 47 :: List.replicate n c)))) := by
  have hpl : p.length ≤ 2 ∧ ∀ x ∈ p, x = 49 ∨ x = 45 := by rcases hp with rfl | rfl <;> simp
  have fr : ∀ x ∈ p ++ 47 :: List.replicate n c, x = 49 ∨ x = 45 ∨ x = 47 ∨ x = c := fun x hx => by
    simp only [List.mem_append, List.mem_cons] at hx
    rcases hx with z | z | z
    · rcases hpl.2 x z with e | e
      · exact .inl e
      · exact .inr (.inl e)
    · exact .inr (.inr (.inl z))
    · exact .inr (.inr (.inr (List.eq_of_mem_replicate z)))
  refine .inr ⟨_, rfl, by simp only [List.length_cons, List.length_append, List.length_replicate]; omega, fun d hd => ?_, ?_⟩
  · rcases List.mem_cons.mp hd with e | hd
    · omega
    · rcases List.mem_cons.mp hd with e | hd
      · omega
      · have := fr d hd
        omega
  · rw [spl1_one (fun z => by
      rcases List.mem_cons.mp z with e | hd
      · omega
      · rcases List.mem_cons.mp hd with e | hd
        · omega
        · have := fr _ hd
          omega)]
    unfold knotsOf
    rw [if_neg (by simp)]
    have e : knotOf (48 :: 58 :: (p ++ 47 :: List.replicate n c)) = none := by
      unfold knotOf
      rw [show 48 :: 58 :: (p ++ 47 :: List.replicate n c) = [48] ++ 58 :: (p ++ 47 :: List.replicate n c) from rfl, spl1_two _ (by decide), spl1_one (fun z => by have := fr _ z; omega)]
      have e2 : fracOf (p ++ 47 :: List.replicate n c) = none := by
        have hb : ∃ q : List Nat, bareOf (p ++ 47 :: List.replicate n c) = q ++ 47 :: List.replicate n c ∧ 47 ∉ q := by
          rcases hp with rfl | rfl
          · exact ⟨[49], rfl, by decide⟩
          · exact ⟨[49], rfl, by decide⟩
        obtain ⟨q, hq, hq2⟩ := hb
        unfold fracOf
        rw [hq, spl1_two _ hq2, spl1_one (not_rep n (by omega)), List.map_cons, List.map_cons, long_num c n h]
        cases DL.numOf q <;> rfl
      rw [List.map_cons, List.map_cons, e2]
      cases fracOf [48] <;> rfl
    rw [List.map_cons, e]
    rfl
section
variable {P : Program} {w : World} {K : PySem.W.Frag} {mg : Str → Option Value} {base : Heap}
theorem ok_law (T : Txt K mg) : FnG P w K mg base (L2.CX P w) 10 T.law.a T.law.fd ["script"] (spD K 1 (sp_law)) := by
  refine fn_okGD T.law.F sc_law rfl fun cdv A outer s H E hr hgu => ?_
  have nd := sc_law.nd
  have hu64 := hr.units
  have hu65 := hu65_of hr
  have hu1 := hu_of hr
  refine ⟨_, (pss_cons (ps_set (i := 1) nd rfl (by first | exact Or.inl rfl | exact Or.inr rfl) (pe_call (ok_L_begun T) (hr.mono (by decide)) rfl T.L_begun.g T.L_begun.F.kp (b_L_begun T) .nil px0 (pa_cons (pv 0) pa_nil)))
      (pss_cons (ps_for (passes_of rfl) rfl (pi_range1 rfl T.m_range (pa_cons pe_int pa_nil)) (pg_name (i := 2) nd rfl (by first | exact Or.inl rfl | exact Or.inr rfl))
      (pss_cons (ps_set (i := 3) nd rfl (by first | exact Or.inl rfl | exact Or.inr rfl) (pe_call (ok_L_whole_text T) (hr.mono (by decide)) rfl T.L_whole_text.g T.L_whole_text.F.kp (b_L_whole_text T) .nil px0 (pa_cons (pv 1) pa_nil)))
      (pss_cons (ps_for (passes_of rfl) rfl (pi_range1 rfl T.m_range (pa_cons (pe_call (ok_L_draw T) (hr.mono (by decide)) rfl T.L_draw.g T.L_draw.F.kp (b_L_draw T) .nil px0 (pa_cons (pv 1) (pa_cons pe_int pa_nil))) pa_nil)) (pg_name (i := 4) nd rfl (by first | exact Or.inl rfl | exact Or.inr rfl))
      (pss_one (ps_set (i := 3) nd rfl (by first | exact Or.inl rfl | exact Or.inr rfl) (pe_call (ok_L_spoilt_text T) (hr.mono (by decide)) rfl T.L_spoilt_text.g T.L_spoilt_text.F.kp (b_L_spoilt_text T) .nil px0 (pa_cons (pv 1) (pa_cons (pv 3) pa_nil))))))
      (pss_one (ps_if (pt_cmpR (op_neK (K := K) rfl hu64) (pe_callB (cr_repr hgu hu65) (by rfl) T.m_repr boot_repr (pa_cons (pe_call (ok_L_said T) (hr.mono (by decide)) rfl T.L_said.g T.L_said.F.kp (b_L_said T) .nil px0 (pa_cons (pv 3) pa_nil)) pa_nil)) (pe_callB (cr_repr hgu hu65) (by rfl) T.m_repr boot_repr (pa_cons (pe_call (ok_L_due T) (hr.mono (by decide)) rfl T.L_due.g T.L_due.F.kp (b_L_due T) .nil px0 (pa_cons (pv 3) pa_nil)) pa_nil)) (nomark _))
      (pss_one (ps_ret pe_bl))
      pss_nil)))))
      (pss_cons (ps_set (i := 5) nd rfl (by first | exact Or.inl rfl | exact Or.inr rfl) (pe_lst (pa_cons pe_non (pa_cons pe_int (pa_cons pe_bl (pa_cons (pe_lst pa_nil) (pa_cons (pe_tup pa_nil) (pa_cons pe_dnewK (pa_cons (pe_lst (pa_cons pe_str pa_nil)) (pa_cons (pe_tup (pa_cons pe_str pa_nil)) (pa_cons pe_str (pa_cons pe_str (pa_cons pe_str (pa_cons pe_str (pa_cons pe_str (pa_cons pe_str (pa_cons pe_str (pa_cons pe_str pa_nil))))))))))))))))))
      (pss_cons (ps_set (i := 5) nd rfl (by first | exact Or.inl rfl | exact Or.inr rfl) (pe_op (op_addK (K := K) rfl) (pv 5) (pe_lst (pa_cons pe_str (pa_cons pe_str (pa_cons pe_str (pa_cons pe_str (pa_cons pe_str (pa_cons pe_str (pa_cons pe_str (pa_cons pe_str (pa_cons pe_str (pa_cons (pe_op (op_addK (K := K) rfl) (pe_op op_mulS pe_str pe_int) pe_str) pa_nil)))))))))))))
      (pss_cons (ps_set (i := 5) nd rfl (by first | exact Or.inl rfl | exact Or.inr rfl) (pe_op (op_addK (K := K) rfl) (pv 5) (pe_lst (pa_cons (pe_op (op_addK (K := K) rfl) pe_str (pe_op op_mulS pe_str pe_int)) (pa_cons (pe_op (op_addK (K := K) rfl) (pe_op op_mulS pe_str pe_int) pe_str) (pa_cons (pe_op (op_addK (K := K) rfl) pe_str (pe_op op_mulS pe_str pe_int)) pa_nil))))))
      (pss_one (ps_ret (pe_cmpR (op_eqK (K := K) rfl hu64) (pe_lc (own := [("text", 3)]) (g := gName 3) (by rfl) nd (pi_K (K := K) rfl (pv 5)) (blkOk_by (N := N_law) (sc := defScope s_law) (by decide +kernel)) (fun _ _ _ _ _ => (pg_name (i := 3) nd rfl (by first | exact Or.inl rfl | exact Or.inr rfl))) (fun _ _ _ _ _ => (pts_one (pt_cmpR (op_neK (K := K) rfl hu64) (pe_call (ok_L_said T) (hr.mono (by decide)) rfl T.L_said.g T.L_said.F.kp (b_L_said T) .nil passL (pa_cons (pv 3) pa_nil)) pe_str (nomark _)))) (fun _ _ _ _ _ => (pv 3))) (pe_lst pa_nil) (nomark _))))))))), fun ds M kk xx hl h => ?_⟩
  try dsimp only [cxOf]
  obtain ⟨v, xs, rfl, rfl, hv, hl, hk⟩ := h
  walk_at "go"
  walk_at "callD"
  walk_at "go"
  walk_at "sp"
  refine ⟨v, xs, rfl, rfl, hv, hl, fun s l M1 hS => ?_⟩
  walk_at "go"
  refine XS.for [2] (XI.rng1 ?_)
  walk_at "go"
  refine ⟨by decide, by decide, fun i ds M => (∃ y z u, ds = [some v, some (.raw s), y, z, u, none]) ∧ IsSt s l (10100 * i) M, ⟨⟨_, _, _, rfl⟩, hS⟩, ?_, ?_⟩
  · rintro i x _ M hx ⟨⟨y, z, u, rfl⟩, hS2⟩
    rw [rngD_get] at hx
    split at hx
    rotate_left
    · cases hx
    rename_i hi
    cases hx
    have hi : i < 16 := hi
    walk_at "go"
    walk_at "callD"
    walk_at "go"
    walk_at "sp"
    refine ⟨s, l, _, rfl, hS2, by omega, fun t M2 ht hu hS3 => ?_⟩
    walk_at "go"
    refine XS.for [4] (XI.rng1 ?_)
    walk_at "go"
    walk_at "callD"
    walk_at "go"
    walk_at "sp"
    refine ⟨s, l, _, _, rfl, hS3, by omega, by decide, by decide, fun r M3 r0 r1 hS4 => ?_⟩
    walk_at "go"
    obtain ⟨r, rfl⟩ := Int.eq_ofNat_of_zero_le r0
    refine ⟨by omega, by omega, ?_⟩
    have e0 : ((r : Nat) : Int).toNat = r := by omega
    rw [e0]
    refine ⟨fun j ds M => (∃ t u, ds = [some v, some (.raw s), some (.int (0 + (i : Nat))), some (.str (S t)), u, none] ∧ t.length + 1 ≤ 12001 * 2 ^ j ∧ Uni t) ∧ IsSt s l (10100 * i + 10001 + 4 * j) M, ⟨⟨t, _, rfl, by omega, hu⟩, hS4⟩, ?_, ?_⟩
    · rintro j x _ M hx ⟨⟨t, u, rfl, ht, hu⟩, hS5⟩
      rw [rngD_get] at hx
      split at hx
      rotate_left
      · cases hx
      rename_i hj
      cases hx
      have e1 : 2 ^ j ≤ 2 ^ 3 := Nat.pow_le_pow_right (by decide) (by omega)
      walk_at "go"
      walk_at "callD"
      walk_at "go"
      walk_at "sp"
      refine ⟨s, l, _, t, rfl, hS5, by omega, by omega, hu, fun q M5 hq hqu hS6 => ?_⟩
      walk_at "go"
      refine ⟨⟨q, _, rfl, ?_, hqu⟩, hS6⟩
      rw [Nat.pow_succ]
      omega
    rintro _ M ⟨⟨t, u, rfl, ht, hu⟩, hS5⟩
    rw [rngD_len] at ht hS5
    have e1 : 2 ^ r ≤ 2 ^ 3 := Nat.pow_le_pow_right (by decide) (by omega)
    obtain ⟨ok, sh⟩ := saidD_ok t
    walk_at "go"
    walk_at "call"
    walk_at "go"
    refine ⟨rfl, .inr ⟨t, rfl, by omega, hu, read_B, ?_⟩⟩
    walk_at "go"
    refine XC.repr .self ok (by decide) sh.sh sh.nd (Nat.le_trans sh.ln (sz (by decide))) ?_
    walk_at "go"
    walk_at "call"
    walk_at "go"
    have hw := spl1_len 32 t
    refine ⟨rfl, .inr ⟨t, rfl, by omega, hu, read_B, by omega, ?_⟩⟩
    walk_at "go"
    refine XC.repr .self ok (by decide) sh.sh sh.nd (Nat.le_trans sh.ln (sz (by decide))) ?_
    refine XR.ne_str ?_
    walk_at "go"
    refine pickF (by simp) ?_
    walk_at "go"
    exact ⟨⟨_, _, _, rfl⟩, hS5.more (by omega) (by omega)⟩
  rintro _ M ⟨⟨y, z, u, rfl⟩, _⟩
  walk_at "go"
  refine XE.lstF ?_
  walk_at "go"
  refine XE.lstF ?_
  walk_at "go"
  refine XE.dnew0 ?_
  walk_at "go"
  refine XE.lstF ?_
  walk_at "go"
  refine XE.lstF ?_
  walk_at "go"
  refine XR.mulS (mulOk_S 57 (n := 61) (by decide)) ?_
  rw [show Txt.mul (Str.ofString "9") 61 = S (List.replicate 61 57) from mul_S 57 (n := 61) (by decide)]
  walk_at "go"
  try rw [lit_c0]
  refine XR.add_str ?_ ?_
  · exact Nat.le_trans (Nat.add_le_add (Nat.le_of_eq (SX.S_len _)) (Nat.le_of_eq (SX.S_len _))) (by rw [List.length_replicate]; decide)
  rw [SX.S_cat]
  walk_at "go"
  refine XR.add_lst .lst .lst (by decide) ?_
  walk_at "go"
  refine XE.lstF ?_
  walk_at "go"
  refine XR.mulS (mulOk_S 57 (n := 61) (by decide)) ?_
  rw [show Txt.mul (Str.ofString "9") 61 = S (List.replicate 61 57) from mul_S 57 (n := 61) (by decide)]
  walk_at "go"
  try rw [lit_01]
  refine XR.add_str ?_ ?_
  · exact Nat.le_trans (Nat.add_le_add (Nat.le_of_eq (SX.S_len _)) (Nat.le_of_eq (SX.S_len _))) (by rw [List.length_replicate]; decide)
  rw [SX.S_cat]
  walk_at "go"
  refine XR.mulS (mulOk_S 55 (n := 5000) (by decide)) ?_
  rw [show Txt.mul (Str.ofString "7") 5000 = S (List.replicate 5000 55) from mul_S 55 (n := 5000) (by decide)]
  walk_at "go"
  try rw [lit_c0]
  refine XR.add_str ?_ ?_
  · exact Nat.le_trans (Nat.add_le_add (Nat.le_of_eq (SX.S_len _)) (Nat.le_of_eq (SX.S_len _))) (by rw [List.length_replicate]; decide)
  rw [SX.S_cat]
  walk_at "go"
  refine XR.mulS (mulOk_S 55 (n := 5000) (by decide)) ?_
  rw [show Txt.mul (Str.ofString "7") 5000 = S (List.replicate 5000 55) from mul_S 55 (n := 5000) (by decide)]
  walk_at "go"
  try rw [lit_0m]
  refine XR.add_str ?_ ?_
  · exact Nat.le_trans (Nat.add_le_add (Nat.le_of_eq (SX.S_len _)) (Nat.le_of_eq (SX.S_len _))) (by rw [List.length_replicate]; decide)
  rw [SX.S_cat]
  walk_at "go"
  refine XR.add_lst .lst .lst (by decide) ?_
  walk_at "go"
  refine XE.lc (fun _ => none) (XI.U ?_)
  walk_at "go"
  refine ⟨_, .lst, by decide, fun x hx => ?_, ?_⟩
  · have ho : Odd x := by
      simp only [List.mem_append, List.mem_cons, List.not_mem_nil, or_false] at hx
      rcases hx with (hx | hx) | hx
      · rcases hx with rfl | rfl | rfl | rfl | rfl | rfl | rfl | rfl | rfl | rfl | rfl | rfl | rfl | rfl | rfl | rfl
        all_goals first | exact .inl ⟨rfl, rfl⟩ | exact oddS (by decide +kernel) (by decide +kernel) (by decide +kernel)
      · rcases hx with rfl | rfl | rfl | rfl | rfl | rfl | rfl | rfl | rfl | rfl
        all_goals first | exact long_a (by decide) (by decide) (by decide) | exact oddS (by decide +kernel) (by decide +kernel) (by decide +kernel)
      · rcases hx with rfl | rfl | rfl
        · exact long_b (p := [49]) (n := 61) (c := 57) (by decide) (by decide) (by decide) (.inl rfl)
        · exact long_a (by decide) (by decide) (by decide)
        · exact long_b (p := [45, 49]) (n := 5000) (c := 55) (by decide) (by decide) (by decide) (.inr rfl)
    walk_at "go"
    walk_at "call"
    walk_at "go"
    refine ⟨rfl, ?_⟩
    have fin : ∀ {P Q : Prop} {A B : Prop}, A ∧ B → (False → P) ∧ (True → A ∧ B) := fun h => ⟨fun z => z.elim, fun _ => h⟩
    rcases ho with ⟨h1, h2⟩ | ⟨t, rfl, h1, h2, h3⟩
    · refine .inl ⟨x, rfl, h1, h2, ?_⟩
      walk_at "go"
      refine XR.ne_str ?_
      walk_at "go"
      exact ⟨rfl, rfl⟩
    · refine .inr ⟨t, rfl, by omega, h2, read_B, ?_⟩
      unfold saidD
      rw [h3]
      walk_at "go"
      refine XR.ne_str ?_
      walk_at "go"
      exact ⟨rfl, rfl⟩
  walk_at "go"
  refine XE.lstF ?_
  walk_at "go"
  rw [show ∀ l : List D, List.filterMap (fun _ => (none : Option D)) l = [] from fun l => by simp]
  refine XR.eqD (n := 1) (m := 1) .self .self rfl rfl (by decide) (by decide) ?_
  exact hk _
end
end My

namespace My
open PySem L2 DL PyProof.Rows
theorem all_mk {l : PySem.W.OpenLaw} {w : World} {K : PySem.W.Frag} {h : Heap} {mg : Str → Option Value} {fa : Addr} (X : K.In h) (G : h.Ns mainGlobals mg) (hfa : mg "law" = some (.ref fa))
    {C_Timetable : Addr}
    {C_NoText : Addr}
    {C_NoTime : Addr}
    {C_NoTable : Addr}
    {C_TrackError : Addr}
    (T_is_whole : FnT K mg "is_whole" s_is_whole [] [])
    (T_common_divisor : FnT K mg "common_divisor" s_common_divisor [] [])
    (T_is_fraction : FnT K mg "is_fraction" s_is_fraction [] [])
    (T_new_fraction : FnT K mg "new_fraction" s_new_fraction [.int 1] [])
    (T_rest_of : FnT K mg "rest_of" s_rest_of [] [])
    (T_share_of : FnT K mg "share_of" s_share_of [] [])
    (T_is_less : FnT K mg "is_less" s_is_less [] [])
    (T_is_knot : FnT K mg "is_knot" s_is_knot [] [])
    (T_are_knots : FnT K mg "are_knots" s_are_knots [] [])
    (T_slopes_of : FnT K mg "slopes_of" s_slopes_of [] [])
    (T_turns_of : FnT K mg "turns_of" s_turns_of [] [])
    (T_number_of : FnT K mg "number_of" s_number_of [] [])
    (T_fraction_of : FnT K mg "fraction_of" s_fraction_of [] [])
    (T_knot_of : FnT K mg "knot_of" s_knot_of [] [])
    (T_knots_of : FnT K mg "knots_of" s_knots_of [] [])
    (T_read_table : FnT K mg "read_table" s_read_table [] [])
    (T_L_begun : FnT K mg "_law_begun" s_L_begun [] [])
    (T_L_mixed : FnT K mg "_law_mixed" s_L_mixed [] [])
    (T_L_draw : FnT K mg "_law_draw" s_L_draw [] [])
    (T_L_pick : FnT K mg "_law_pick" s_L_pick [] [])
    (T_L_frac : FnT K mg "_law_frac" s_L_frac [] [])
    (T_L_less : FnT K mg "_law_less" s_L_less [] [])
    (T_L_in_order : FnT K mg "_law_in_order" s_L_in_order [] [])
    (T_L_long : FnT K mg "_law_long" s_L_long [] [])
    (T_L_any_fraction : FnT K mg "_law_any_fraction" s_L_any_fraction [] [])
    (T_L_fraction_text : FnT K mg "_law_fraction_text" s_L_fraction_text [] [])
    (T_L_knot_text : FnT K mg "_law_knot_text" s_L_knot_text [] [])
    (T_L_number : FnT K mg "_law_number" s_L_number [] [])
    (T_L_fraction : FnT K mg "_law_fraction" s_L_fraction [] [])
    (T_L_knots_read : FnT K mg "_law_knots_read" s_L_knots_read [] [])
    (T_L_spoilt_text : FnT K mg "_law_spoilt_text" s_L_spoilt_text [] [])
    (T_L_said : FnT K mg "_law_said" s_L_said [] [])
    (T_L_due : FnT K mg "_law_due" s_L_due [] [])
    (T_L_whole_text : FnT K mg "_law_whole_text" s_L_whole_text [] [])
    (T_law : FnT K mg "law" s_law [] [])
    (a_TrackError : PySem.W.nsIn K mainGlobals "TrackError" = some (some (.ref C_TrackError)))
    (a_NoTable : PySem.W.nsIn K mainGlobals "NoTable" = some (some (.ref C_NoTable)))
    (ec_NoTable : ExcC K C_NoTable)
    (ex_NoTable_TrackError : PySem.W.exmOne K (.ref C_NoTable) (.ref C_TrackError) = some true)
    (kt_NoTable_NoText : PySem.W.kitOne K (.ref C_NoTable) (.ref C_NoText) = some false)
    (x_NoTable : PySem.W.excIn K C_NoTable [.type "ValueError", .type "Exception", .type "BaseException", .type "object"] "ValueError.__new__" = true)
    (k_NoTable : PySem.W.keepIn K (.ref C_NoTable) = true)
    (be_NoTable : PySem.W.subIn K (.ref C_NoTable) (.type "BaseException") = some true)
    (te_NoTable : PySem.W.typeIn K (.ref C_NoTable) = some (.type "type"))
    (a_NoTime : PySem.W.nsIn K mainGlobals "NoTime" = some (some (.ref C_NoTime)))
    (a_NoText : PySem.W.nsIn K mainGlobals "NoText" = some (some (.ref C_NoText)))
    (ec_NoText : ExcC K C_NoText)
    (ex_NoText_TrackError : PySem.W.exmOne K (.ref C_NoText) (.ref C_TrackError) = some true)
    (kt_NoText_NoTable : PySem.W.kitOne K (.ref C_NoText) (.ref C_NoTable) = some false)
    (T_NoText_init : MeT K C_NoText "__init__" "NoText.__init__" s_NoText_init)
    (ox_NoText : OexC K C_NoText)
    (xf_NoText : XfC K C_NoText)
    (ti_NoText : PySem.W.typeIn K (.ref T_NoText_init.a) = some (.type "function"))
    (nf_NoText_row : PySem.W.findIn K (.ref C_NoText) "row" = some none)
    (a_Timetable : PySem.W.nsIn K mainGlobals "Timetable" = some (some (.ref C_Timetable)))
    (cl_Timetable : Cls K C_Timetable)
    (ty_Timetable : TyC K C_Timetable)
    (na_Timetable_points : NoAttr K C_Timetable "points")
    (na_Timetable_turns : NoAttr K C_Timetable "turns")
    (T_Timetable_init : MeT K C_Timetable "__init__" "Timetable.__init__" s_Timetable_init)
    (T_Timetable_knots : MeT K C_Timetable "knots" "Timetable.knots" s_Timetable_knots)
    (mk_Timetable : PySem.W.makesIn K C_Timetable = true) (kc_Timetable : PySem.W.keepIn K (.ref C_Timetable) = true)
    (con_Timetable_MOST : ∃ u, Con K C_Timetable "MOST" (.int 40) u)
    {a_ZERO : Addr}
    (n_ZERO : PySem.W.nsIn K mainGlobals "ZERO" = some (some (.ref a_ZERO)))
    (t_ZERO : ∀ F, Rep K F (.tup [.int 0, .int 1]) (.ref a_ZERO))
    {u_DIGITS : Value} (n_DIGITS : PySem.W.nsIn K mainGlobals "DIGITS" = some (some u_DIGITS)) (r_DIGITS : RelV (.str "0123456789") u_DIGITS)
    {u_MOST_DIGITS : Value} (n_MOST_DIGITS : PySem.W.nsIn K mainGlobals "MOST_DIGITS" = some (some u_MOST_DIGITS)) (r_MOST_DIGITS : RelV (.int 60) u_MOST_DIGITS)
    (z_isinstance : PySem.W.nsIn K mainGlobals "isinstance" = some none)
    (z_int : PySem.W.nsIn K mainGlobals "int" = some none)
    (z_bool : PySem.W.nsIn K mainGlobals "bool" = some none)
    (z_abs : PySem.W.nsIn K mainGlobals "abs" = some none)
    (z_tuple : PySem.W.nsIn K mainGlobals "tuple" = some none)
    (z_len : PySem.W.nsIn K mainGlobals "len" = some none)
    (z_range : PySem.W.nsIn K mainGlobals "range" = some none)
    (z_list : PySem.W.nsIn K mainGlobals "list" = some none)
    (z_zip : PySem.W.nsIn K mainGlobals "zip" = some none)
    (z_str : PySem.W.nsIn K mainGlobals "str" = some none)
    (z_max : PySem.W.nsIn K mainGlobals "max" = some none)
    (z_min : PySem.W.nsIn K mainGlobals "min" = some none)
    (z_repr : PySem.W.nsIn K mainGlobals "repr" = some none)
    (z_enumerate : PySem.W.nsIn K mainGlobals "enumerate" = some none) :
    ∃ fd : FuncData, (∀ (s : Shared) (v : Value), BindsTo s fd ⟨[v], []⟩ [("script", v)]) ∧ ∀ base : Heap, K.In base → base.Ns mainGlobals mg → FnG l.prog w K mg base (L2.CX l.prog w) 10 fa fd ["script"] (spD K 1 sp_law) := by
  have T : ∃ T : Txt K mg, True := ⟨{ is_whole := T_is_whole, common_divisor := T_common_divisor, is_fraction := T_is_fraction, new_fraction := T_new_fraction, rest_of := T_rest_of, share_of := T_share_of, is_less := T_is_less, is_knot := T_is_knot, are_knots := T_are_knots, slopes_of := T_slopes_of, turns_of := T_turns_of, number_of := T_number_of, fraction_of := T_fraction_of, knot_of := T_knot_of, knots_of := T_knots_of, read_table := T_read_table, L_begun := T_L_begun, L_mixed := T_L_mixed, L_draw := T_L_draw, L_pick := T_L_pick, L_frac := T_L_frac, L_less := T_L_less, L_in_order := T_L_in_order, L_long := T_L_long, L_any_fraction := T_L_any_fraction, L_fraction_text := T_L_fraction_text, L_knot_text := T_L_knot_text, L_number := T_L_number, L_fraction := T_L_fraction, L_knots_read := T_L_knots_read, L_spoilt_text := T_L_spoilt_text, L_said := T_L_said, L_due := T_L_due, L_whole_text := T_L_whole_text, law := T_law, C_TrackError := C_TrackError, C_NoTable := C_NoTable, C_NoTime := C_NoTime, C_NoText := C_NoText, C_Timetable := C_Timetable, g_TrackError := PySem.W.mg_of X G a_TrackError, g_NoTable := PySem.W.mg_of X G a_NoTable, ec_NoTable := ec_NoTable, ex_NoTable_TrackError := ex_NoTable_TrackError, kt_NoTable_NoText := kt_NoTable_NoText, kt_NoTable_NoTable := DL.kit_self, x_NoTable := x_NoTable, k_NoTable := k_NoTable, be_NoTable := be_NoTable, te_NoTable := te_NoTable, g_NoTime := PySem.W.mg_of X G a_NoTime, g_NoText := PySem.W.mg_of X G a_NoText, ec_NoText := ec_NoText, ex_NoText_TrackError := ex_NoText_TrackError, kt_NoText_NoText := DL.kit_self, kt_NoText_NoTable := kt_NoText_NoTable, NoText_init := T_NoText_init, ox_NoText := ox_NoText, xf_NoText := xf_NoText, ti_NoText := ti_NoText, nf_NoText_row := nf_NoText_row, g_Timetable := PySem.W.mg_of X G a_Timetable, cl_Timetable := cl_Timetable, ty_Timetable := ty_Timetable, ki_Timetable := DL.kit_self, na_Timetable_points := na_Timetable_points, na_Timetable_turns := na_Timetable_turns, Timetable_init := T_Timetable_init, Timetable_knots := T_Timetable_knots, mk_Timetable := ⟨mk_Timetable, T_Timetable_init.me.at_, T_Timetable_init.me.fn, kc_Timetable⟩, con_Timetable_MOST := con_Timetable_MOST, a_ZERO := a_ZERO, g_ZERO := PySem.W.mg_of X G n_ZERO, t_ZERO := t_ZERO, c_DIGITS := ⟨u_DIGITS, PySem.W.mg_of X G n_DIGITS, r_DIGITS⟩, c_MOST_DIGITS := ⟨u_MOST_DIGITS, PySem.W.mg_of X G n_MOST_DIGITS, r_MOST_DIGITS⟩, m_isinstance := PySem.W.mg_none_of X G z_isinstance, m_int := PySem.W.mg_none_of X G z_int, m_bool := PySem.W.mg_none_of X G z_bool, m_abs := PySem.W.mg_none_of X G z_abs, m_tuple := PySem.W.mg_none_of X G z_tuple, m_len := PySem.W.mg_none_of X G z_len, m_range := PySem.W.mg_none_of X G z_range, m_list := PySem.W.mg_none_of X G z_list, m_zip := PySem.W.mg_none_of X G z_zip, m_str := PySem.W.mg_none_of X G z_str, m_max := PySem.W.mg_none_of X G z_max, m_min := PySem.W.mg_none_of X G z_min, m_repr := PySem.W.mg_none_of X G z_repr, m_enumerate := PySem.W.mg_none_of X G z_enumerate }, trivial⟩
  obtain ⟨T, _⟩ := T
  have e := hfa.symm.trans T.law.g
  cases e
  exact ⟨T.law.fd, DL.law_bind T.law.F fun _ _ _ _ _ _ us hl => match us, hl with | [_], _ => rfl, fun base _ _ => ok_law T⟩

end My
open PySem PySem.W PyProof.Rows
set_option maxRecDepth 100000 in
set_option maxHeartbeats 0 in
theorem PySem.Challenge.cw_handedpast_k85_table_texts_spoilt_holds : PySem.Challenge.rw_handedpast_k85_table_texts_spoilt.Holds := by
  w_on; o_law; k_head; (case hw => w_witness2)
  k_fill
  refine DL.walk_ofG (l := PySem.Challenge.rw_handedpast_k85_table_texts_spoilt) (n := 63) (k := 10) (x := "script") (CX := fun w => L2.CX PySem.Challenge.pw_handedpast_k85_table_texts_spoilt w) (sp := fun w => DL.spD _ 1 DL.sp_law) rfl (by decide) rfl ⟨rfl, by decide, by decide⟩ (fun w h Y => PySem.W.kIn_of Y) ?F (fun _ H a ns hl _ hS => DL.law_hsp H a ns (Nat.le_trans hl (by decide)) hS) ?C
  case C =>
    intro w H s e s' hc
    exact DL.cx_no hc
  case F =>
    intro w mg fa h KX G hmg
    refine' My.all_mk (l := PySem.Challenge.rw_handedpast_k85_table_texts_spoilt) KX G hmg ?T_is_whole ?T_common_divisor ?T_is_fraction ?T_new_fraction ?T_rest_of ?T_share_of ?T_is_less ?T_is_knot ?T_are_knots ?T_slopes_of ?T_turns_of ?T_number_of ?T_fraction_of ?T_knot_of ?T_knots_of ?T_read_table ?T_L_begun ?T_L_mixed ?T_L_draw ?T_L_pick ?T_L_frac ?T_L_less ?T_L_in_order ?T_L_long ?T_L_any_fraction ?T_L_fraction_text ?T_L_knot_text ?T_L_number ?T_L_fraction ?T_L_knots_read ?T_L_spoilt_text ?T_L_said ?T_L_due ?T_L_whole_text ?T_law ?a_TrackError ?a_NoTable ?ec_NoTable ?ex_NoTable_TrackError ?kt_NoTable_NoText ?x_NoTable ?k_NoTable ?be_NoTable ?te_NoTable ?a_NoTime ?a_NoText ?ec_NoText ?ex_NoText_TrackError ?kt_NoText_NoTable ?T_NoText_init ?ox_NoText ?xf_NoText ?ti_NoText ?nf_NoText_row ?a_Timetable ?cl_Timetable ?ty_Timetable ?na_Timetable_points ?na_Timetable_turns ?T_Timetable_init ?T_Timetable_knots ?mk_Timetable ?kc_Timetable ?con_Timetable_MOST ?n_ZERO ?t_ZERO ?n_DIGITS ?r_DIGITS ?n_MOST_DIGITS ?r_MOST_DIGITS ?z_isinstance ?z_int ?z_bool ?z_abs ?z_tuple ?z_len ?z_range ?z_list ?z_zip ?z_str ?z_max ?z_min ?z_repr ?z_enumerate
    (case a_TrackError => k_is)
    (case a_NoTable => k_is)
    (case a_NoTime => k_is)
    (case a_NoText => k_is)
    (case a_Timetable => k_is)
    (case T_is_whole => refine' DL.fnT_mk KX G ?a9 ?l9 ?c9 ?k9; (case a9 => k_is); (case l9 => k_is); (case c9 => k_is); (case k9 => k_is))
    (case T_common_divisor => refine' DL.fnT_mk KX G ?a9 ?l9 ?c9 ?k9; (case a9 => k_is); (case l9 => k_is); (case c9 => k_is); (case k9 => k_is))
    (case T_is_fraction => refine' DL.fnT_mk KX G ?a9 ?l9 ?c9 ?k9; (case a9 => k_is); (case l9 => k_is); (case c9 => k_is); (case k9 => k_is))
    (case T_new_fraction => refine' DL.fnT_mkD KX G ?a9 ?l9 ?c9 ?k9 ?t9 ?r9 ?d9; (case a9 => k_is); (case l9 => k_is); (case c9 => k_is); (case k9 => k_is); (case t9 => k_is); (case r9 => exact .cons ⟨_, rfl⟩ (.nil)); (case d9 => exact List.cons_ne_nil _ _))
    (case T_rest_of => refine' DL.fnT_mk KX G ?a9 ?l9 ?c9 ?k9; (case a9 => k_is); (case l9 => k_is); (case c9 => k_is); (case k9 => k_is))
    (case T_share_of => refine' DL.fnT_mk KX G ?a9 ?l9 ?c9 ?k9; (case a9 => k_is); (case l9 => k_is); (case c9 => k_is); (case k9 => k_is))
    (case T_is_less => refine' DL.fnT_mk KX G ?a9 ?l9 ?c9 ?k9; (case a9 => k_is); (case l9 => k_is); (case c9 => k_is); (case k9 => k_is))
    (case T_is_knot => refine' DL.fnT_mk KX G ?a9 ?l9 ?c9 ?k9; (case a9 => k_is); (case l9 => k_is); (case c9 => k_is); (case k9 => k_is))
    (case T_are_knots => refine' DL.fnT_mk KX G ?a9 ?l9 ?c9 ?k9; (case a9 => k_is); (case l9 => k_is); (case c9 => k_is); (case k9 => k_is))
    (case T_slopes_of => refine' DL.fnT_mk KX G ?a9 ?l9 ?c9 ?k9; (case a9 => k_is); (case l9 => k_is); (case c9 => k_is); (case k9 => k_is))
    (case T_turns_of => refine' DL.fnT_mk KX G ?a9 ?l9 ?c9 ?k9; (case a9 => k_is); (case l9 => k_is); (case c9 => k_is); (case k9 => k_is))
    (case T_number_of => refine' DL.fnT_mk KX G ?a9 ?l9 ?c9 ?k9; (case a9 => k_is); (case l9 => k_is); (case c9 => k_is); (case k9 => k_is))
    (case T_fraction_of => refine' DL.fnT_mk KX G ?a9 ?l9 ?c9 ?k9; (case a9 => k_is); (case l9 => k_is); (case c9 => k_is); (case k9 => k_is))
    (case T_knot_of => refine' DL.fnT_mk KX G ?a9 ?l9 ?c9 ?k9; (case a9 => k_is); (case l9 => k_is); (case c9 => k_is); (case k9 => k_is))
    (case T_knots_of => refine' DL.fnT_mk KX G ?a9 ?l9 ?c9 ?k9; (case a9 => k_is); (case l9 => k_is); (case c9 => k_is); (case k9 => k_is))
    (case T_read_table => refine' DL.fnT_mk KX G ?a9 ?l9 ?c9 ?k9; (case a9 => k_is); (case l9 => k_is); (case c9 => k_is); (case k9 => k_is))
    (case T_L_begun => refine' DL.fnT_mk KX G ?a9 ?l9 ?c9 ?k9; (case a9 => k_is); (case l9 => k_is); (case c9 => k_is); (case k9 => k_is))
    (case T_L_mixed => refine' DL.fnT_mk KX G ?a9 ?l9 ?c9 ?k9; (case a9 => k_is); (case l9 => k_is); (case c9 => k_is); (case k9 => k_is))
    (case T_L_draw => refine' DL.fnT_mk KX G ?a9 ?l9 ?c9 ?k9; (case a9 => k_is); (case l9 => k_is); (case c9 => k_is); (case k9 => k_is))
    (case T_L_pick => refine' DL.fnT_mk KX G ?a9 ?l9 ?c9 ?k9; (case a9 => k_is); (case l9 => k_is); (case c9 => k_is); (case k9 => k_is))
    (case T_L_frac => refine' DL.fnT_mk KX G ?a9 ?l9 ?c9 ?k9; (case a9 => k_is); (case l9 => k_is); (case c9 => k_is); (case k9 => k_is))
    (case T_L_less => refine' DL.fnT_mk KX G ?a9 ?l9 ?c9 ?k9; (case a9 => k_is); (case l9 => k_is); (case c9 => k_is); (case k9 => k_is))
    (case T_L_in_order => refine' DL.fnT_mk KX G ?a9 ?l9 ?c9 ?k9; (case a9 => k_is); (case l9 => k_is); (case c9 => k_is); (case k9 => k_is))
    (case T_L_long => refine' DL.fnT_mk KX G ?a9 ?l9 ?c9 ?k9; (case a9 => k_is); (case l9 => k_is); (case c9 => k_is); (case k9 => k_is))
    (case T_L_any_fraction => refine' DL.fnT_mk KX G ?a9 ?l9 ?c9 ?k9; (case a9 => k_is); (case l9 => k_is); (case c9 => k_is); (case k9 => k_is))
    (case T_L_fraction_text => refine' DL.fnT_mk KX G ?a9 ?l9 ?c9 ?k9; (case a9 => k_is); (case l9 => k_is); (case c9 => k_is); (case k9 => k_is))
    (case T_L_knot_text => refine' DL.fnT_mk KX G ?a9 ?l9 ?c9 ?k9; (case a9 => k_is); (case l9 => k_is); (case c9 => k_is); (case k9 => k_is))
    (case T_L_number => refine' DL.fnT_mk KX G ?a9 ?l9 ?c9 ?k9; (case a9 => k_is); (case l9 => k_is); (case c9 => k_is); (case k9 => k_is))
    (case T_L_fraction => refine' DL.fnT_mk KX G ?a9 ?l9 ?c9 ?k9; (case a9 => k_is); (case l9 => k_is); (case c9 => k_is); (case k9 => k_is))
    (case T_L_knots_read => refine' DL.fnT_mk KX G ?a9 ?l9 ?c9 ?k9; (case a9 => k_is); (case l9 => k_is); (case c9 => k_is); (case k9 => k_is))
    (case T_L_spoilt_text => refine' DL.fnT_mk KX G ?a9 ?l9 ?c9 ?k9; (case a9 => k_is); (case l9 => k_is); (case c9 => k_is); (case k9 => k_is))
    (case T_L_said => refine' DL.fnT_mk KX G ?a9 ?l9 ?c9 ?k9; (case a9 => k_is); (case l9 => k_is); (case c9 => k_is); (case k9 => k_is))
    (case T_L_due => refine' DL.fnT_mk KX G ?a9 ?l9 ?c9 ?k9; (case a9 => k_is); (case l9 => k_is); (case c9 => k_is); (case k9 => k_is))
    (case T_L_whole_text => refine' DL.fnT_mk KX G ?a9 ?l9 ?c9 ?k9; (case a9 => k_is); (case l9 => k_is); (case c9 => k_is); (case k9 => k_is))
    (case T_law => refine' DL.fnT_mk KX G ?a9 ?l9 ?c9 ?k9; (case a9 => k_is); (case l9 => k_is); (case c9 => k_is); (case k9 => k_is))
    (case ec_NoTable => refine' ⟨?a9, ?b9, ?c9, ?d9, ?e9, ?f9, ?g9, ?h9⟩; (case a9 => k_is); (case b9 => k_is); (case c9 => k_is); (case d9 => k_is); (case e9 => k_is); (case f9 => k_is); (case g9 => k_is); (case h9 => k_is))
    (case ex_NoTable_TrackError => refine' PySem.W.exm_ref ?a9 ?b9 ?c9 ?d9; (case a9 => k_is); (case b9 => k_is); (case c9 => k_is); (case d9 => k_is))
    (case kt_NoTable_NoText => refine' DL.kit_sub ?a9 ?b9 ?c9 ?d9 ?e9; (case a9 => k_is); (case b9 => k_is); (case c9 => k_is); (case d9 => k_is); (case e9 => exact fun z => absurd z (by decide)))
    (case x_NoTable => k_exc)
    (case k_NoTable => k_is)
    (case be_NoTable => k_is)
    (case te_NoTable => k_is)
    (case ec_NoText => refine' ⟨?a9, ?b9, ?c9, ?d9, ?e9, ?f9, ?g9, ?h9⟩; (case a9 => k_is); (case b9 => k_is); (case c9 => k_is); (case d9 => k_is); (case e9 => k_is); (case f9 => k_is); (case g9 => k_is); (case h9 => k_is))
    (case ex_NoText_TrackError => refine' PySem.W.exm_ref ?a9 ?b9 ?c9 ?d9; (case a9 => k_is); (case b9 => k_is); (case c9 => k_is); (case d9 => k_is))
    (case kt_NoText_NoTable => refine' DL.kit_sub ?a9 ?b9 ?c9 ?d9 ?e9; (case a9 => k_is); (case b9 => k_is); (case c9 => k_is); (case d9 => k_is); (case e9 => exact fun z => absurd z (by decide)))
    (case T_NoText_init => refine' DL.meT_mk ?a9 ?i9 ?l9 ?c9 ?k9; (case a9 => k_is); (case i9 => k_is); (case l9 => k_is); (case c9 => k_is); (case k9 => k_is))
    (case ox_NoText => refine' DL.ox_mk ?l9 ?e9 ?a9 ?b9 ?c9 ?d9; (case l9 => k_is); (case e9 => decide +kernel); (case a9 => k_is); (case b9 => k_is); (case c9 => k_is); (case d9 => k_is))
    (case xf_NoText => refine' ⟨?a9, ?b9, ?c9, ?d9⟩; (case a9 => k_is); (case b9 => k_is); (case c9 => k_is); (case d9 => k_is))
    (case ti_NoText => unfold DL.meT_mk; dsimp only; k_is)
    (case nf_NoText_row => k_is)
    (case cl_Timetable => refine' ⟨?a9, ?b9, ?c9, ?d9⟩; (case a9 => k_is); (case b9 => k_is); (case c9 => k_is); (case d9 => k_is))
    (case ty_Timetable => refine' ⟨⟨?a9, ?b9, ?c9, ?d9⟩, ?e9, ?f9, ?g9, ?h9⟩; (case a9 => k_is); (case b9 => k_is); (case c9 => k_is); (case d9 => k_is); (case e9 => k_is); (case f9 => k_is); (case g9 => k_is); (case h9 => k_is))
    (case na_Timetable_points => unfold L2.NoAttr; k_is)
    (case na_Timetable_turns => unfold L2.NoAttr; k_is)
    (case T_Timetable_init => refine' DL.meT_mk ?a9 ?i9 ?l9 ?c9 ?k9; (case a9 => k_is); (case i9 => k_is); (case l9 => k_is); (case c9 => k_is); (case k9 => k_is))
    (case T_Timetable_knots => refine' DL.meT_mk ?a9 ?i9 ?l9 ?c9 ?k9; (case a9 => k_is); (case i9 => k_is); (case l9 => k_is); (case c9 => k_is); (case k9 => k_is))
    (case mk_Timetable => k_is)
    (case kc_Timetable => k_is)
    (case con_Timetable_MOST => refine' ⟨_, ?a9, ?r9, ?g9, ?c9⟩; (case a9 => k_is); (case r9 => exact ⟨_, rfl⟩); (case g9 => k_is); (case c9 => rfl))
    (case n_ZERO => k_is)
    (case t_ZERO => refine' DL.tup_mk (vs := [.int 0, .int 1]) ?l9 ?z9 ?r9 ?q9; (case l9 => k_is); (case z9 => decide); (case r9 => exact .cons ⟨_, rfl⟩ (.cons ⟨_, rfl⟩ (.nil))); (case q9 => exact fun F => .cons (.int _) (.cons (.int _) (.nil))))
    (case n_DIGITS => k_is)
    (case r_DIGITS => exact ⟨_, rfl⟩)
    (case n_MOST_DIGITS => k_is)
    (case r_MOST_DIGITS => exact ⟨_, rfl⟩)
    (case z_isinstance => k_is)
    (case z_int => k_is)
    (case z_bool => k_is)
    (case z_abs => k_is)
    (case z_tuple => k_is)
    (case z_len => k_is)
    (case z_range => k_is)
    (case z_list => k_is)
    (case z_zip => k_is)
    (case z_str => k_is)
    (case z_max => k_is)
    (case z_min => k_is)
    (case z_repr => k_is)
    (case z_enumerate => k_is)
