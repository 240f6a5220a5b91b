import PyProof.Rows.All
import Wide.All
import OpenK.AllK
import Wide.FinOn
import HandS.ForMost
import HandS.Exc
import HandS.TryOnly
import HandS.ExcOwn
import HandS.WordsExc
import HandS.CallSlots
import HandS.Deep
import HandS.HeadHook1
import HandS.HeadHook2
import KE.KDictKeyed
import KE.SortData
import KE.DataEq
import KE.DataCmp
import KE.DataIsa
import HandS.TupAny
import HandS.TupMul
import HandS.Conv
import HandS.IsInst
import KE.KDictList
import KE.KDictCopyH
import HandS.Iter
import HandS.Zip
import KE.GoesEnum
import HandS.Comp
import HandS.Flow
import HandS.Style
import PyProof.ReprRoads
import HandS.Ends
import HandS.HeadHook4
import HandS.Head2
import HandS.DictComp
import KE.KDictPairs
import PySem.Challenge.RW_wakebook_k33_whole_more_edges_more_comes
import KE.KStateDown
import HandS.Head0
import HandS.Head1
import HandS.HeadEnd
set_option Elab.async false
set_option linter.all false
set_option maxRecDepth 100000
/-! The data layer, part a: data, how values stand for data, steps. -/
namespace DL
open PySem PySem.Spec PyProof.Rows L2

/-- plain data: what a Python value tells -/
inductive P where
  | non | bl (b : Bool) | int (i : Int) | str (s : Str) | tup (xs : List P) | lst (xs : List P)
  | dK (ks : List Key) (xs : List P) | dT (ks xs : List P) | obj (C : Str) (ns : List Str) (xs : List P) | exc (C : Str) (ns : List Str) (xs : List P)
instance : Inhabited P := ⟨.non⟩

mutual
def P.beq : P → P → Bool
  | .non, .non => true
  | .bl a, .bl b => a == b
  | .int a, .int b => decide (a = b)
  | .str a, .str b => decide (a = b)
  | .tup a, .tup b => P.beqL a b
  | .lst a, .lst b => P.beqL a b
  | .dK k a, .dK l b => decide (k = l) && P.beqL a b
  | .dT k a, .dT l b => P.beqL k l && P.beqL a b
  | .obj c k a, .obj d l b => decide (c = d) && (decide (k = l) && P.beqL a b)
  | .exc c k a, .exc d l b => decide (c = d) && (decide (k = l) && P.beqL a b)
  | _, _ => false
def P.beqL : List P → List P → Bool
  | [], [] => true
  | a :: as, b :: bs => P.beq a b && P.beqL as bs
  | _, _ => false
end
mutual
theorem P.beq_self : ∀ a : P, P.beq a a = true
  | .non => rfl
  | .bl a => by simp [P.beq]
  | .int a => by simp [P.beq]
  | .str a => by simp [P.beq]
  | .tup a => by rw [P.beq]; exact P.beqL_self a
  | .lst a => by rw [P.beq]; exact P.beqL_self a
  | .dK k a => by rw [P.beq, P.beqL_self a]; simp
  | .dT k a => by rw [P.beq, P.beqL_self k, P.beqL_self a]; rfl
  | .obj c k a => by rw [P.beq, P.beqL_self a]; simp
  | .exc c k a => by rw [P.beq, P.beqL_self a]; simp
theorem P.beqL_self : ∀ a : List P, P.beqL a a = true
  | [] => rfl
  | a :: as => by rw [P.beqL, P.beq_self a, P.beqL_self as]; rfl
end
mutual
theorem P.eq_of_beq : ∀ a b : P, P.beq a b = true → a = b
  | .non, b, h => by cases b <;> first | rfl | simp [P.beq] at h
  | .bl a, b, h => by cases b <;> first | (simp [P.beq] at h; rw [h]) | simp [P.beq] at h
  | .int a, b, h => by cases b <;> first | (simp [P.beq] at h; rw [h]) | simp [P.beq] at h
  | .str a, b, h => by cases b <;> first | (simp [P.beq] at h; rw [h]) | simp [P.beq] at h
  | .tup a, b, h => by cases b <;> first | (rw [P.beq] at h; rw [P.eq_of_beqL a _ h]) | simp [P.beq] at h
  | .lst a, b, h => by cases b <;> first | (rw [P.beq] at h; rw [P.eq_of_beqL a _ h]) | simp [P.beq] at h
  | .dK k a, b, h => by
    cases b <;> first
      | (rw [P.beq, Bool.and_eq_true] at h; rw [of_decide_eq_true h.1, P.eq_of_beqL a _ h.2])
      | simp [P.beq] at h
  | .dT k a, b, h => by
    cases b <;> first
      | (rw [P.beq, Bool.and_eq_true] at h; rw [P.eq_of_beqL k _ h.1, P.eq_of_beqL a _ h.2])
      | simp [P.beq] at h
  | .obj c k a, b, h => by
    cases b <;> first
      | (rw [P.beq, Bool.and_eq_true, Bool.and_eq_true] at h; rw [of_decide_eq_true h.1, of_decide_eq_true h.2.1, P.eq_of_beqL a _ h.2.2])
      | simp [P.beq] at h
  | .exc c k a, b, h => by
    cases b <;> first
      | (rw [P.beq, Bool.and_eq_true, Bool.and_eq_true] at h; rw [of_decide_eq_true h.1, of_decide_eq_true h.2.1, P.eq_of_beqL a _ h.2.2])
      | simp [P.beq] at h
theorem P.eq_of_beqL : ∀ a b : List P, P.beqL a b = true → a = b
  | [], [], _ => rfl
  | [], _ :: _, h => by simp [P.beqL] at h
  | _ :: _, [], h => by simp [P.beqL] at h
  | a :: as, b :: bs, h => by rw [P.beqL, Bool.and_eq_true] at h; rw [P.eq_of_beq a b h.1, P.eq_of_beqL as bs h.2]
end
instance : DecidableEq P := fun a b => if h : P.beq a b = true then .isTrue (P.eq_of_beq a b h) else .isFalse fun e => h (e ▸ P.beq_self a)

/-! ### as the library's data -/
mutual
def P.py : P → PyData
  | .non => .none
  | .bl b => .bool b
  | .int i => .int i
  | .str s => .str s
  | .tup xs => .tuple (P.pyL xs)
  | .lst xs => .list (P.pyL xs)
  | .dK _ _ => .none
  | .dT _ _ => .none
  | .obj _ _ _ => .none
  | .exc _ _ _ => .none
def P.pyL : List P → List PyData
  | [] => []
  | x :: xs => P.py x :: P.pyL xs
end
mutual
/-- no dict, no object within -/
def P.plain : P → Bool
  | .non => true
  | .bl _ => true
  | .int _ => true
  | .str _ => true
  | .tup xs => P.plainL xs
  | .lst xs => P.plainL xs
  | .dK _ _ => false
  | .dT _ _ => false
  | .obj _ _ _ => false
  | .exc _ _ _ => false
def P.plainL : List P → Bool
  | [] => true
  | x :: xs => P.plain x && P.plainL xs
end
theorem P.pyL_eq : ∀ xs : List P, P.pyL xs = xs.map P.py
  | [] => rfl
  | x :: xs => by rw [P.pyL, P.pyL_eq xs]; rfl
theorem P.plainL_eq : ∀ xs : List P, P.plainL xs = xs.all P.plain
  | [] => rfl
  | x :: xs => by rw [P.plainL, P.plainL_eq xs]; rfl

/-! ### as a key of a dict -/
mutual
def P.nk : P → NestedKey
  | .bl b => .num (if b then 1 else 0)
  | .int i => .num i
  | .str s => .text s
  | .tup xs => .tup (P.nkL xs)
  | _ => .none
def P.nkL : List P → List NestedKey
  | [] => []
  | x :: xs => P.nk x :: P.nkL xs
end
mutual
/-- may stand within a key -/
def P.keyed : P → Bool
  | .non => true
  | .bl _ => true
  | .int _ => true
  | .str _ => true
  | .tup xs => P.keyedL xs
  | _ => false
def P.keyedL : List P → Bool
  | [] => true
  | x :: xs => P.keyed x && P.keyedL xs
end

/-! ### the abstract memory -/
/-- what is written to: a list, a dict (int and text keys; tuples as keys), an instance -/
inductive D where
  | p (x : P) | ref (i : Nat) | und
instance : Inhabited D := ⟨.und⟩
inductive MO where
  | lst (xs : List P) | dK (ks : List Key) (xs : List P) | dT (ks xs : List P) | ins (C : Str) (ns : List Str) (xs : List P)
abbrev Mem := List (Option MO)
/-- where the writable objects stand; what is not to be touched for a while -/
structure Io where
  at_ : List (Option Addr)
  hid : List Addr := []
/-- it is nobody's -/
def Io.fre (ι : Io) (a : Addr) : Prop := some a ∉ ι.at_ ∧ a ∉ ι.hid

/-- the program, the world, the written part -/
structure Gx where
  prog : Program
  w : World
  K : PySem.W.Frag
abbrev gx (X : Cx) : Gx := ⟨X.prog, X.w, X.K⟩

/-- it stands at a and is nobody's to write -/
def Own (H : Hp) (ι : Io) (a : Addr) (u : HO) : Prop := H a = some u ∧ ι.fre a
def KTup (K : PySem.W.Frag) (a : Addr) (xs : List V) : Prop := ∃ (o : Obj) (its : Array Value) (n : Nat), K.lookup a = some o ∧ o.cls = .type "tuple" ∧ o.dict = none ∧ o.data = .seq its n ∧ its.size ≤ sizeLine ∧ Vals xs its.toList
def StL (K : PySem.W.Frag) (H : Hp) (ι : Io) (a : Addr) (xs : List V) : Prop := Own H ι a (.lst xs) ∨ ∃ o, Own H ι a (.frz o (.lst xs))
def StT (K : PySem.W.Frag) (H : Hp) (ι : Io) (a : Addr) (xs : List V) : Prop := (∃ o, Own H ι a (.frz o (.tup xs)) ∧ o.dict = none) ∨ KTup K a xs
theorem StL.rd {K : PySem.W.Frag} {H : Hp} {ι : Io} {a : Addr} {xs : List V} (h : StL K H ι a xs) : Rd H a (.lst xs) := by
  rcases h with h | ⟨o, h⟩
  · exact .inl h.1
  · exact .inr ⟨o, h.1⟩
theorem StL.sq {K : PySem.W.Frag} {H : Hp} {ι : Io} {a : Addr} {xs : List V} (h : StL K H ι a xs) : SqL K H a xs := .inl h.rd
theorem StT.sq {K : PySem.W.Frag} {H : Hp} {ι : Io} {a : Addr} {xs : List V} (h : StT K H ι a xs) : SqT K H a xs := by
  rcases h with ⟨o, h, _⟩ | ⟨o, its, n, h1, h2, _, h3⟩
  · exact .inl (.inr ⟨o, h.1⟩)
  · exact .inr ⟨o, its, n, h1, h2, h3⟩
/-- the exact object -/
def ExactO (a : Addr) (o : Obj) : HO := .ext fun h => h.get? a = some o
/-- a dict's object with tuples as keys: its entries -/
structure TabO (G : Gx) (a : Addr) (o : Obj) (ys : List (NestedKey × Addr × Value)) : Prop where
  ex : o.ExactDict
  dat : ∃ es ep, o.data = .dict es ep ∧ es.toList = ys.map (entryOfKey (nestedKind G.prog G.w))
  nd : (ys.map (·.1)).Nodup
  sys : (a == sysModules) = false
  len : ys.length ≤ sizeLine
  dep : ∀ y ∈ ys, y.1.depth ≤ 8
/-- a caught exception's object -/
def XcO (cls : Value) (dx a : Addr) : HO := .ext fun h => ∃ (oe : Obj) (vs : Array Value), h.get? a = some oe ∧ Zc cls (some dx) oe ∧ oe.data = .fields vs

mutual
/-- the value stands for the datum -/
def Rep (G : Gx) (H : Hp) (ι : Io) : P → V → Prop
  | .non, v => v = .non
  | .bl b, v => v = .bl b
  | .int i, v => v = .int i
  | .str s, v => v = .str s
  | .tup xs, v => ∃ a vs, v = .ref a ∧ StT G.K H ι a vs ∧ RepL G H ι xs vs
  | .lst xs, v => ∃ a vs, v = .ref a ∧ StL G.K H ι a vs ∧ RepL G H ι xs vs
  | .dK ks xs, v => ∃ a o vs, v = .ref a ∧ Own H ι a (.frz o (.dK (ks.zip vs))) ∧ ks.length = xs.length ∧ RepL G H ι xs vs
  | .dT ks xs, v => ∃ a o ys vs, v = .ref a ∧ Own H ι a (.frz o (ExactO a o)) ∧ TabO G a o ys ∧ ys.map (·.1) = P.nkL ks ∧ P.keyedL ks = true ∧ RepL G H ι ks (ys.map fun y => V.ref y.2.1) ∧ Vals vs (ys.map fun y => y.2.2) ∧ RepL G H ι xs vs
  | .obj C ns xs, v => ∃ a dx vs, v = .ref a ∧ Own H ι a (.ins (He.ga G.K C) dx (ns.zip vs)) ∧ ns.length = xs.length ∧ RepL G H ι xs vs
  | .exc C ns xs, v => ∃ a dx vs, v = .ref a ∧ Own H ι a (XcO (.ref (He.ga G.K C)) dx a) ∧ Own H ι dx (.xd (ns.zip vs)) ∧ ns.length = xs.length ∧ RepL G H ι xs vs
def RepL (G : Gx) (H : Hp) (ι : Io) : List P → List V → Prop
  | [], vs => vs = []
  | x :: xs, vs => ∃ v r, vs = v :: r ∧ Rep G H ι x v ∧ RepL G H ι xs r
end
/-- a local's value, an argument -/
def RepD (G : Gx) (H : Hp) (ι : Io) : D → V → Prop
  | .p x, v => Rep G H ι x v
  | .ref i, v => ∃ a, v = .ref a ∧ (ι.at_[i]? = some (some a) ∨ ι.at_[i]? = some none)
  | .und, _ => False
def RepDL (G : Gx) (H : Hp) (ι : Io) : List D → List V → Prop
  | [], vs => vs = []
  | d :: ds, vs => ∃ v r, vs = v :: r ∧ RepD G H ι d v ∧ RepDL G H ι ds r

/-- what stands at a writable address -/
def MObj (G : Gx) (H : Hp) (ι : Io) (a : Addr) : MO → Prop
  | .lst xs => ∃ vs, H a = some (.lst vs) ∧ RepL G H ι xs vs
  | .dK ks xs => ∃ vs, H a = some (.dK (ks.zip vs)) ∧ ks.length = xs.length ∧ RepL G H ι xs vs
  | .dT ks xs => ∃ o ys vs, H a = some (ExactO a o) ∧ TabO G a o ys ∧ ys.map (·.1) = P.nkL ks ∧ P.keyedL ks = true ∧ RepL G H ι ks (ys.map fun y => V.ref y.2.1) ∧ Vals vs (ys.map fun y => y.2.2) ∧ RepL G H ι xs vs
  | .ins C ns xs => ∃ dx vs, H a = some (.ins (He.ga G.K C) dx (ns.zip vs)) ∧ ns.length = xs.length ∧ RepL G H ι xs vs
structure MRel (G : Gx) (H : Hp) (ι : Io) (m : Mem) : Prop where
  len : ι.at_.length = m.length
  inj : ∀ (i j : Nat) (a : Addr), ι.at_[i]? = some (some a) → ι.at_[j]? = some (some a) → i = j
  obj : ∀ (i : Nat) (a : Addr), ι.at_[i]? = some (some a) → ∃ o, m[i]? = some (some o) ∧ MObj G H ι a o
  gon : ∀ (i : Nat), ι.at_[i]? = some none → m[i]? = some none
  hid : ∀ a, a ∈ ι.hid → (∃ u, H a = some u) ∧ some a ∉ ι.at_
/-- the locals -/
abbrev DS := List D
structure SRel (G : Gx) (H : Hp) (ι : Io) (σ : L2.St) (δ : DS) : Prop where
  len : σ.length = δ.length
  at_ : ∀ (i : Nat) (d : D), δ[i]? = some d → d ≠ .und → ∃ v, σ[i]? = some (some v) ∧ RepD G H ι d v

def NoTbl (o : HO) : Prop := ∀ ps, o ≠ .tbl ps
/-- from one heap to a later one -/
structure Step (ι : Io) (H : Hp) (ι' : Io) (H' : Hp) : Prop where
  len : ι.at_.length ≤ ι'.at_.length
  pre : ∀ (i : Nat) (o : Option Addr), ι'.at_[i]? = some o → i < ι.at_.length → ι.at_[i]? = some o ∨ o = none
  keep : ∀ b o, H b = some o → some b ∉ ι.at_ → NoTbl o → H' b = some o
  new : ∀ b, some b ∈ ι'.at_ → some b ∉ ι.at_ → H b = none
  tbl : ∀ b ps, H b = some (.tbl ps) → ∃ more, H' b = some (.tbl (ps ++ more))
  hid : ι'.hid = ι.hid
theorem Step.refl (ι : Io) (H : Hp) : Step ι H ι H where
  len := Nat.le_refl _
  pre := fun i o h _ => .inl h
  keep := fun _ _ h _ _ => h
  new := fun b h n => absurd h n
  tbl := fun b ps h => ⟨#[], by simpa using h⟩
  hid := rfl
theorem Step.keepA {ι ι' : Io} {H H' : Hp} (s : Step ι H ι' H') {b : Addr} {o : HO} (h : H b = some o) (n : some b ∉ ι.at_) (nt : NoTbl o) : H' b = some o ∧ some b ∉ ι'.at_ :=
  ⟨s.keep b o h n nt, fun z => by rw [s.new b z n] at h; cases h⟩
theorem Step.keepN {ι ι' : Io} {H H' : Hp} (s : Step ι H ι' H') {b : Addr} {o : HO} (h : H b = some o) (n : ι.fre b) (nt : NoTbl o) : H' b = some o ∧ ι'.fre b :=
  let ⟨h1, h2⟩ := s.keepA h n.1 nt; ⟨h1, h2, by rw [s.hid]; exact n.2⟩
theorem Step.some_of {ι ι' : Io} {H H' : Hp} (s : Step ι H ι' H') {b : Addr} {o : HO} (h : H b = some o) (n : some b ∉ ι.at_) : ∃ o', H' b = some o' := by
  by_cases nt : NoTbl o
  · exact ⟨o, s.keep b o h n nt⟩
  · unfold NoTbl at nt
    have : ∃ ps, o = .tbl ps := by
      cases o <;> first | exact ⟨_, rfl⟩ | exact absurd (fun ps z => by cases z) nt
    obtain ⟨ps, rfl⟩ := this
    obtain ⟨more, e⟩ := s.tbl b ps h
    exact ⟨_, e⟩
theorem Step.trans {ι ι1 ι2 : Io} {H H1 H2 : Hp} (a : Step ι H ι1 H1) (b : Step ι1 H1 ι2 H2) : Step ι H ι2 H2 where
  len := Nat.le_trans a.len b.len
  pre := fun i o h l => by
    rcases b.pre i o h (Nat.lt_of_lt_of_le l a.len) with q | q
    · exact a.pre i o q l
    · exact .inr q
  keep := fun c o h n nt => by
    obtain ⟨h1, n1⟩ := a.keepA h n nt
    exact b.keep c o h1 n1 nt
  new := fun c h n => by
    by_cases q : some c ∈ ι1.at_
    · exact a.new c q n
    · have z := b.new c h q
      cases e : H c with
      | none => rfl
      | some o =>
        obtain ⟨o', e'⟩ := a.some_of e n
        rw [z] at e'; cases e'
  tbl := fun c ps h => by
    obtain ⟨m1, e1⟩ := a.tbl c ps h
    obtain ⟨m2, e2⟩ := b.tbl c _ e1
    exact ⟨m1 ++ m2, by rw [e2, Array.append_assoc]⟩
  hid := b.hid.trans a.hid

section
variable {G : Gx} {ι ι' : Io} {H H' : Hp}
/-- what is nobody's stays -/
structure Mw (ι : Io) (H : Hp) (ι' : Io) (H' : Hp) : Prop where
  own : ∀ a u, Own H ι a u → NoTbl u → Own H' ι' a u
/-- what keeps every reading: all that is nobody's stays -/
structure Mv (ι : Io) (H : Hp) (ι' : Io) (H' : Hp) : Prop extends Mw ι H ι' H' where
  len : ι.at_.length ≤ ι'.at_.length
  pre : ∀ (i : Nat) (o : Option Addr), ι'.at_[i]? = some o → i < ι.at_.length → ι.at_[i]? = some o ∨ o = none
theorem Step.mv (s : Step ι H ι' H') : Mv ι H ι' H' := ⟨⟨fun a u h nt => s.keepN h.1 h.2 nt⟩, s.len, s.pre⟩
theorem Mv.trans {ι1 : Io} {H1 : Hp} (a : Mv ι H ι1 H1) (b : Mv ι1 H1 ι' H') : Mv ι H ι' H' := ⟨⟨fun c u h nt => b.own c u (a.own c u h nt) nt⟩, Nat.le_trans a.len b.len, fun i o h l => by
  rcases b.pre i o h (Nat.lt_of_lt_of_le l a.len) with q | q
  · exact a.pre i o q l
  · exact .inr q⟩
theorem Own.mw (s : Mw ι H ι' H') {a : Addr} {u : HO} (h : Own H ι a u) (nt : NoTbl u) : Own H' ι' a u := s.own a u h nt
theorem StL.mw {K : PySem.W.Frag} (s : Mw ι H ι' H') {a : Addr} {xs : List V} (h : StL K H ι a xs) : StL K H' ι' a xs := by
  rcases h with h | ⟨o, h⟩
  · exact .inl (h.mw s fun ps z => by cases z)
  · exact .inr ⟨o, h.mw s fun ps z => by cases z⟩
theorem StT.mw {K : PySem.W.Frag} (s : Mw ι H ι' H') {a : Addr} {xs : List V} (h : StT K H ι a xs) : StT K H' ι' a xs := by
  rcases h with ⟨o, h, d⟩ | h
  · exact .inl ⟨o, h.mw s (fun ps z => by cases z), d⟩
  · exact .inr h
mutual
theorem Rep.mw (s : Mw ι H ι' H') : ∀ (x : P) (v : V), Rep G H ι x v → Rep G H' ι' x v
  | .non, v, h => h
  | .bl _, v, h => h
  | .int _, v, h => h
  | .str _, v, h => h
  | .tup xs, v, h => by
    simp only [Rep] at h ⊢
    obtain ⟨a, vs, e, t, r⟩ := h
    exact ⟨a, vs, e, t.mw s, RepL.mw s xs vs r⟩
  | .lst xs, v, h => by
    simp only [Rep] at h ⊢
    obtain ⟨a, vs, e, t, r⟩ := h
    exact ⟨a, vs, e, t.mw s, RepL.mw s xs vs r⟩
  | .dK ks xs, v, h => by
    simp only [Rep] at h ⊢
    obtain ⟨a, o, vs, e, t, l, r⟩ := h
    exact ⟨a, o, vs, e, t.mw s (fun ps z => by cases z), l, RepL.mw s xs vs r⟩
  | .dT ks xs, v, h => by
    simp only [Rep] at h ⊢
    obtain ⟨a, o, ys, vs, e, t, tb, e1, e2, r1, q, r2⟩ := h
    exact ⟨a, o, ys, vs, e, t.mw s (fun ps z => by cases z), tb, e1, e2, RepL.mw s ks _ r1, q, RepL.mw s xs vs r2⟩
  | .obj C ns xs, v, h => by
    simp only [Rep] at h ⊢
    obtain ⟨a, dx, vs, e, t, l, r⟩ := h
    exact ⟨a, dx, vs, e, t.mw s (fun ps z => by cases z), l, RepL.mw s xs vs r⟩
  | .exc C ns xs, v, h => by
    simp only [Rep] at h ⊢
    obtain ⟨a, dx, vs, e, t, t2, l, r⟩ := h
    exact ⟨a, dx, vs, e, t.mw s (fun ps z => by cases z), t2.mw s (fun ps z => by cases z), l, RepL.mw s xs vs r⟩
theorem RepL.mw (s : Mw ι H ι' H') : ∀ (xs : List P) (vs : List V), RepL G H ι xs vs → RepL G H' ι' xs vs
  | [], vs, h => by simp only [RepL] at h ⊢; exact h
  | x :: xs, vs, h => by
    simp only [RepL] at h ⊢
    obtain ⟨v, r, e, h1, h2⟩ := h
    exact ⟨v, r, e, Rep.mw s x v h1, RepL.mw s xs r h2⟩
end
theorem Own.mv (s : Mv ι H ι' H') {a : Addr} {u : HO} (h : Own H ι a u) (nt : NoTbl u) : Own H' ι' a u := h.mw s.toMw nt
theorem StL.mv {K : PySem.W.Frag} (s : Mv ι H ι' H') {a : Addr} {xs : List V} (h : StL K H ι a xs) : StL K H' ι' a xs := h.mw s.toMw
theorem StT.mv {K : PySem.W.Frag} (s : Mv ι H ι' H') {a : Addr} {xs : List V} (h : StT K H ι a xs) : StT K H' ι' a xs := h.mw s.toMw
theorem Rep.mv (s : Mv ι H ι' H') (x : P) (v : V) (h : Rep G H ι x v) : Rep G H' ι' x v := Rep.mw s.toMw x v h
theorem RepL.mv (s : Mv ι H ι' H') (xs : List P) (vs : List V) (h : RepL G H ι xs vs) : RepL G H' ι' xs vs := RepL.mw s.toMw xs vs h
theorem RepD.mv (s : Mv ι H ι' H') : ∀ {d : D} {v : V}, RepD G H ι d v → RepD G H' ι' d v
  | .p x, v, h => Rep.mv s x v h
  | .ref i, v, h => by
    obtain ⟨a, e, h⟩ := h
    refine ⟨a, e, ?_⟩
    have hl : i < ι.at_.length := by
      rcases h with h | h <;> exact (List.getElem?_eq_some_iff.mp h).1
    have hl' : i < ι'.at_.length := Nat.lt_of_lt_of_le hl s.len
    have q := s.pre i ι'.at_[i] (List.getElem?_eq_getElem hl') hl
    rw [List.getElem?_eq_getElem hl']
    rcases q with q | q
    · rcases h with h | h
      · rw [h] at q; exact .inl q.symm
      · rw [h] at q; exact .inr q.symm
    · exact .inr (by rw [q])
  | .und, v, h => h
theorem RepDL.mv (s : Mv ι H ι' H') : ∀ {ds : List D} {vs : List V}, RepDL G H ι ds vs → RepDL G H' ι' ds vs
  | [], _, h => h
  | _ :: _, _, h => by
    obtain ⟨v, r, e, h1, h2⟩ := h
    exact ⟨v, r, e, h1.mv s, RepDL.mv s h2⟩
theorem SRel.mv (s : Mv ι H ι' H') {σ : L2.St} {δ : DS} (h : SRel G H ι σ δ) : SRel G H' ι' σ δ :=
  ⟨h.len, fun i d e n => let ⟨v, a, r⟩ := h.at_ i d e n; ⟨v, a, r.mv s⟩⟩

theorem Own.step (s : Step ι H ι' H') {a : Addr} {u : HO} (h : Own H ι a u) (nt : NoTbl u) : Own H' ι' a u := h.mv s.mv nt
theorem StL.step {K : PySem.W.Frag} (s : Step ι H ι' H') {a : Addr} {xs : List V} (h : StL K H ι a xs) : StL K H' ι' a xs := h.mv s.mv
theorem StT.step {K : PySem.W.Frag} (s : Step ι H ι' H') {a : Addr} {xs : List V} (h : StT K H ι a xs) : StT K H' ι' a xs := h.mv s.mv
theorem Rep.step (s : Step ι H ι' H') (x : P) (v : V) (h : Rep G H ι x v) : Rep G H' ι' x v := Rep.mv s.mv x v h
theorem RepL.step (s : Step ι H ι' H') (xs : List P) (vs : List V) (h : RepL G H ι xs vs) : RepL G H' ι' xs vs := RepL.mv s.mv xs vs h
theorem RepD.step (s : Step ι H ι' H') {d : D} {v : V} (h : RepD G H ι d v) : RepD G H' ι' d v := h.mv s.mv
theorem RepDL.step (s : Step ι H ι' H') {ds : List D} {vs : List V} (h : RepDL G H ι ds vs) : RepDL G H' ι' ds vs := h.mv s.mv
theorem SRel.step (s : Step ι H ι' H') {σ : L2.St} {δ : DS} (h : SRel G H ι σ δ) : SRel G H' ι' σ δ := h.mv s.mv
/-- an object is hidden, changed, told again -/
def Io.hide (ι : Io) (p : Addr) : Io := ⟨ι.at_, p :: ι.hid⟩
theorem Mv.hide {p : Addr} {u : HO} (hp : H p = none) : Mv ι H (ι.hide p) (upd H p u) := ⟨⟨fun a w h nt => by
  have n : a ≠ p := ne_of_none h.1 hp
  exact ⟨by rw [upd_ne n]; exact h.1, h.2.1, fun z => (List.mem_cons.mp z).elim n h.2.2⟩⟩, Nat.le_refl _, fun i o h _ => .inl h⟩
theorem Mv.hidden {p : Addr} {u : HO} (hp : p ∈ ι.hid) : Mv ι H ι (upd H p u) := ⟨⟨fun a w h nt => by
  have n : a ≠ p := fun z => h.2.2 (by rw [z]; exact hp)
  exact ⟨by rw [upd_ne n]; exact h.1, h.2⟩⟩, Nat.le_refl _, fun i o h _ => .inl h⟩
theorem Mv.show_ {p : Addr} {l : List Addr} : Mv ⟨ι.at_, p :: l⟩ H ⟨ι.at_, l⟩ H := ⟨⟨fun a w h nt => ⟨h.1, h.2.1, fun z => h.2.2 (List.mem_cons_of_mem _ z)⟩⟩, Nat.le_refl _, fun i o h _ => .inl h⟩
/-! ### lists of values -/
theorem RepL.cons {x : P} {xs : List P} {v : V} {vs : List V} (h : Rep G H ι x v) (t : RepL G H ι xs vs) : RepL G H ι (x :: xs) (v :: vs) := by
  simp only [RepL]; exact ⟨v, vs, rfl, h, t⟩
theorem RepL.nil : RepL G H ι [] [] := by simp only [RepL]
theorem RepL.length : ∀ {xs : List P} {vs : List V}, RepL G H ι xs vs → xs.length = vs.length
  | [], vs, h => by simp only [RepL] at h; rw [h]; rfl
  | x :: xs, vs, h => by
    simp only [RepL] at h
    obtain ⟨v, r, e, _, h2⟩ := h
    rw [e, List.length_cons, List.length_cons, RepL.length h2]
theorem RepL.get : ∀ {xs : List P} {vs : List V} {i : Nat} {x : P}, RepL G H ι xs vs → xs[i]? = some x → ∃ v, vs[i]? = some v ∧ Rep G H ι x v
  | [], vs, i, x, h, e => by simp at e
  | y :: xs, vs, i, x, h, e => by
    simp only [RepL] at h
    obtain ⟨v, r, e1, h1, h2⟩ := h
    subst e1
    cases i with
    | zero => simp at e; subst e; exact ⟨v, rfl, h1⟩
    | succ i =>
      obtain ⟨u, a, b⟩ := RepL.get (i := i) (x := x) h2 (by simpa using e)
      exact ⟨u, by simpa using a, b⟩
theorem RepL.getV : ∀ {xs : List P} {vs : List V} {i : Nat} {v : V}, RepL G H ι xs vs → vs[i]? = some v → ∃ x, xs[i]? = some x ∧ Rep G H ι x v := fun {xs vs i v} h e => by
  have hl : i < xs.length := by rw [h.length]; exact (List.getElem?_eq_some_iff.mp e).1
  obtain ⟨u, a, b⟩ := h.get (List.getElem?_eq_getElem hl)
  rw [e] at a; cases a
  exact ⟨_, List.getElem?_eq_getElem hl, b⟩
theorem RepL.append : ∀ {xs ys : List P} {vs ws : List V}, RepL G H ι xs vs → RepL G H ι ys ws → RepL G H ι (xs ++ ys) (vs ++ ws)
  | [], ys, vs, ws, h, t => by simp only [RepL] at h; subst h; exact t
  | x :: xs, ys, vs, ws, h, t => by
    simp only [RepL] at h
    obtain ⟨v, r, e, h1, h2⟩ := h
    subst e
    exact .cons h1 (RepL.append h2 t)
theorem RepL.take : ∀ {xs : List P} {vs : List V} (n : Nat), RepL G H ι xs vs → RepL G H ι (xs.take n) (vs.take n)
  | xs, vs, 0, h => by simp [RepL]
  | [], vs, n + 1, h => by simp only [RepL] at h; subst h; simp [RepL]
  | x :: xs, vs, n + 1, h => by
    simp only [RepL] at h
    obtain ⟨v, r, e, h1, h2⟩ := h
    subst e
    exact .cons h1 (RepL.take n h2)
theorem RepL.drop : ∀ {xs : List P} {vs : List V} (n : Nat), RepL G H ι xs vs → RepL G H ι (xs.drop n) (vs.drop n)
  | xs, vs, 0, h => h
  | [], vs, n + 1, h => by simp only [RepL] at h; subst h; simp [RepL]
  | x :: xs, vs, n + 1, h => by
    simp only [RepL] at h
    obtain ⟨v, r, e, h1, h2⟩ := h
    subst e
    exact RepL.drop n h2
theorem RepL.set {x : P} {v : V} (hx : Rep G H ι x v) : ∀ {xs : List P} {vs : List V} (i : Nat), RepL G H ι xs vs → RepL G H ι (xs.set i x) (vs.set i v)
  | [], vs, i, h => by simp only [RepL] at h; subst h; simp [RepL]
  | y :: xs, vs, i, h => by
    simp only [RepL] at h
    obtain ⟨u, r, e, h1, h2⟩ := h
    subst e
    cases i with
    | zero => exact .cons hx h2
    | succ i => exact .cons h1 (RepL.set hx i h2)
theorem RepL.eraseIdx : ∀ {xs : List P} {vs : List V} (i : Nat), RepL G H ι xs vs → RepL G H ι (xs.eraseIdx i) (vs.eraseIdx i)
  | [], vs, i, h => by simp only [RepL] at h; subst h; simp [RepL]
  | y :: xs, vs, i, h => by
    simp only [RepL] at h
    obtain ⟨u, r, e, h1, h2⟩ := h
    subst e
    cases i with
    | zero => exact h2
    | succ i => exact .cons h1 (RepL.eraseIdx i h2)
theorem RepDL.cons {d : D} {ds : List D} {v : V} {vs : List V} (h : RepD G H ι d v) (t : RepDL G H ι ds vs) : RepDL G H ι (d :: ds) (v :: vs) := ⟨v, vs, rfl, h, t⟩
theorem RepDL.length : ∀ {ds : List D} {vs : List V}, RepDL G H ι ds vs → ds.length = vs.length
  | [], vs, h => by rw [show vs = [] from h]; rfl
  | d :: ds, vs, h => by
    obtain ⟨v, r, e, _, h2⟩ := h
    rw [e, List.length_cons, List.length_cons, RepDL.length h2]
theorem RepDL.get : ∀ {ds : List D} {vs : List V} {i : Nat} {d : D}, RepDL G H ι ds vs → ds[i]? = some d → ∃ v, vs[i]? = some v ∧ RepD G H ι d v
  | [], vs, i, d, h, e => by simp at e
  | y :: ds, vs, i, d, h, e => by
    obtain ⟨v, r, e1, h1, h2⟩ := h
    subst e1
    cases i with
    | zero => simp at e; subst e; exact ⟨v, rfl, h1⟩
    | succ i =>
      obtain ⟨u, a, b⟩ := RepDL.get (i := i) (d := d) h2 (by simpa using e)
      exact ⟨u, by simpa using a, b⟩
theorem RepDL.set {d : D} {v : V} (hx : RepD G H ι d v) : ∀ {ds : List D} {vs : List V} (i : Nat), RepDL G H ι ds vs → RepDL G H ι (ds.set i d) (vs.set i v)
  | [], vs, i, h => by rw [show vs = [] from h]; exact rfl
  | y :: ds, vs, i, h => by
    obtain ⟨u, r, e, h1, h2⟩ := h
    subst e
    cases i with
    | zero => exact .cons hx h2
    | succ i => exact .cons h1 (RepDL.set hx i h2)
/-- one value stands for one datum's list -/
theorem RepL.one {x : P} {v : V} (h : Rep G H ι x v) : RepL G H ι [x] [v] := .cons h .nil
end
end DL

set_option Elab.async false
set_option linter.all false
set_option maxRecDepth 100000
/-! The data layer, part b: results, expressions. -/
namespace DL
open PySem PySem.Spec PyProof.Rows L2

/-! ### results -/
inductive ER (α : Type) where
  | ok (a : α) (m : Mem) | ex (x : P) (m : Mem) | bad
def ER.bind {α β : Type} (r : ER α) (f : α → Mem → ER β) : ER β := match r with
  | .ok a m => f a m
  | .ex x m => .ex x m
  | .bad => .bad
@[simp] theorem ER.bind_ok {α β : Type} (a : α) (m : Mem) (f : α → Mem → ER β) : (ER.ok a m).bind f = f a m := rfl
@[simp] theorem ER.bind_ex {α β : Type} (x : P) (m : Mem) (f : α → Mem → ER β) : (ER.ex x m : ER α).bind f = .ex x m := rfl
@[simp] theorem ER.bind_bad {α β : Type} (f : α → Mem → ER β) : (ER.bad : ER α).bind f = .bad := rfl
/-- behind a statement -/
inductive SR where
  | nx (δ : DS) (m : Mem) | rt (d : D) (m : Mem) | bk (δ : DS) (m : Mem) | ct (δ : DS) (m : Mem) | ex (x : P) (δ : DS) (m : Mem) | bad
abbrev FE := DS → Mem → ER D
abbrev FB := DS → Mem → ER Bool
abbrev FA := DS → Mem → ER (List D)
abbrev FS := DS → Mem → SR

/-- how an exception stands for its datum -/
def XRep (G : Gx) (H : Hp) (ι : Io) (x : P) (c : Value) (dd : Option Addr) : Prop :=
  ∃ C ns xs, x = .exc C ns xs ∧ c = .ref (He.ga G.K C) ∧ ((dd = none ∧ ns = [] ∧ xs = []) ∨ ∃ dx vs, dd = some dx ∧ Own H ι dx (.xd (ns.zip vs)) ∧ ns.length = xs.length ∧ RepL G H ι xs vs)
/-- what is wanted of a result -/
def ERP (G : Gx) (W : WX) (σ : L2.St) (ι : Io) (H : Hp) {α β : Type} (rel : Hp → Io → α → β → Prop) (r : ER α) (Q : β → Hp → Prop) : Prop :=
  match r with
  | .ok a m => ∀ v H' ι', Step ι H ι' H' → MRel G H' ι' m → rel H' ι' a v → Q v H'
  | .ex x m => ∀ c dd H' ι', Step ι H ι' H' → MRel G H' ι' m → XRep G H' ι' x c dd → W c dd σ H'
  | .bad => False
section
variable {G : Gx} {W : WX} {σ : L2.St} {ι ι1 : Io} {H H1 : Hp} {α β γ ε : Type} {rel : Hp → Io → α → β → Prop} {rel' : Hp → Io → γ → ε → Prop}
theorem ERP.step (s : Step ι H ι1 H1) {r : ER α} {Q : β → Hp → Prop} (h : ERP G W σ ι H rel r Q) : ERP G W σ ι1 H1 rel r Q := by
  cases r with
  | ok a m => exact fun v H' ι' s' => h v H' ι' (s.trans s')
  | ex x m => exact fun c dd H' ι' s' => h c dd H' ι' (s.trans s')
  | bad => exact h
theorem ERP.seq {r : ER α} {g : α → Mem → ER γ} {Q : ε → Hp → Prop} {Q1 : β → Hp → Prop} (h : ERP G W σ ι H rel' (r.bind g) Q)
    (k : ∀ a m1 v H1 ι1, r = .ok a m1 → Step ι H ι1 H1 → MRel G H1 ι1 m1 → rel H1 ι1 a v → ERP G W σ ι1 H1 rel' (g a m1) Q → Q1 v H1) : ERP G W σ ι H rel r Q1 := by
  cases r with
  | ok a m => exact fun v H' ι' s mr rr => k a m v H' ι' rfl s mr rr (h.step s)
  | ex x m => exact h
  | bad => exact h
theorem ERP.imp {r : ER α} {Q Q1 : β → Hp → Prop} (h : ERP G W σ ι H rel r Q) (k : ∀ v H', Q v H' → Q1 v H') : ERP G W σ ι H rel r Q1 := by
  cases r with
  | ok a m => exact fun v H' ι' s mr rr => k _ _ (h v H' ι' s mr rr)
  | ex x m => exact h
  | bad => exact h
end

/-! ### the readings -/
def tD (X : Cx) (W : WX) (f : FE) : TE := fun σ H Q => ∃ δ m ι, SRel (gx X) H ι σ δ ∧ MRel (gx X) H ι m ∧ ERP (gx X) W σ ι H (fun H ι => RepD (gx X) H ι) (f δ m) Q
def tDB (X : Cx) (W : WX) (f : FB) : TT := fun σ H Q => ∃ δ m ι, SRel (gx X) H ι σ δ ∧ MRel (gx X) H ι m ∧ ERP (gx X) W σ ι H (fun _ _ (b : Bool) b' => b = b') (f δ m) Q
def tDA (X : Cx) (W : WX) (f : FA) : TA := fun σ H Q => ∃ δ m ι, SRel (gx X) H ι σ δ ∧ MRel (gx X) H ι m ∧ ERP (gx X) W σ ι H (fun H ι => RepDL (gx X) H ι) (f δ m) Q
def SRP (G : Gx) (W : WX) (ι : Io) (H : Hp) (r : SR) (E : Ends) : Prop :=
  match r with
  | .nx δ m => ∀ σ' H' ι', Step ι H ι' H' → MRel G H' ι' m → SRel G H' ι' σ' δ → E.nx σ' H'
  | .rt d m => ∀ v H' ι', Step ι H ι' H' → MRel G H' ι' m → RepD G H' ι' d v → E.rt v H'
  | .bk δ m => ∀ σ' H' ι', Step ι H ι' H' → MRel G H' ι' m → SRel G H' ι' σ' δ → E.bk σ' H'
  | .ct δ m => ∀ σ' H' ι', Step ι H ι' H' → MRel G H' ι' m → SRel G H' ι' σ' δ → E.ct σ' H'
  | .ex x δ m => ∀ c dd σ' H' ι', Step ι H ι' H' → MRel G H' ι' m → SRel G H' ι' σ' δ → XRep G H' ι' x c dd → W c dd σ' H'
  | .bad => False
theorem SRP.step {G : Gx} {W : WX} {ι ι1 : Io} {H H1 : Hp} (s : Step ι H ι1 H1) {r : SR} {E : Ends} (h : SRP G W ι H r E) : SRP G W ι1 H1 r E := by
  cases r with
  | nx δ m => exact fun σ' H' ι' s' => h σ' H' ι' (s.trans s')
  | rt d m => exact fun v H' ι' s' => h v H' ι' (s.trans s')
  | bk δ m => exact fun σ' H' ι' s' => h σ' H' ι' (s.trans s')
  | ct δ m => exact fun σ' H' ι' s' => h σ' H' ι' (s.trans s')
  | ex x δ m => exact fun c dd σ' H' ι' s' => h c dd σ' H' ι' (s.trans s')
  | bad => exact h
def tDS (X : Cx) (W : WX) (f : FS) : TS := fun E σ H => ∃ δ m ι, SRel (gx X) H ι σ δ ∧ MRel (gx X) H ι m ∧ SRP (gx X) W ι H (f δ m) E
abbrev DE (X : Cx) (W : WX) (e : Expr) (f : FE) : Prop := PE X e (tD X W f)
abbrev DB (X : Cx) (W : WX) (e : Expr) (f : FB) : Prop := PT X e (tDB X W f)
abbrev DWB (X : Cx) (W : WX) (e : Expr) (f : FB) : Prop := PW X e (tDB X W f)
abbrev DA (X : Cx) (W : WX) (es : List Expr) (f : FA) : Prop := PA X es (tDA X W f)
abbrev DT (X : Cx) (W : WX) (st : Stmt) (f : FS) : Prop := PS X st (tDS X W f)
abbrev DTs (X : Cx) (W : WX) (st : List Stmt) (f : FS) : Prop := PSs X st (tDS X W f)
theorem _root_.L2.PE.conv {X : Cx} {e : Expr} {t t' : TE} (h : PE X e t) (k : ∀ σ H Q, t' σ H Q → t σ H Q) : PE X e t' := ⟨fun pins s σ H Q I q => h.run pins s σ H Q I (k σ H Q q)⟩
theorem _root_.L2.PT.conv {X : Cx} {e : Expr} {t t' : TT} (h : PT X e t) (k : ∀ σ H Q, t' σ H Q → t σ H Q) : PT X e t' := ⟨fun pins s σ H Q I q => h.run pins s σ H Q I (k σ H Q q)⟩
theorem _root_.L2.PW.conv {X : Cx} {e : Expr} {t t' : TT} (h : PW X e t) (k : ∀ σ H Q, t' σ H Q → t σ H Q) : PW X e t' := ⟨fun w pins s σ H Q I q => h.run w pins s σ H Q I (k σ H Q q)⟩
theorem _root_.L2.PA.conv {X : Cx} {e : List Expr} {t t' : TA} (h : PA X e t) (k : ∀ σ H Q, t' σ H Q → t σ H Q) : PA X e t' := ⟨fun p pins s σ H Q I q => h.run p pins s σ H Q I (k σ H Q q)⟩
theorem _root_.L2.PS.conv {X : Cx} {e : Stmt} {t t' : TS} (h : PS X e t) (k : ∀ E σ H, t' E σ H → t E σ H) : PS X e t' := ⟨fun pins s σ H E I q => h.run pins s σ H E I (k E σ H q)⟩
theorem _root_.L2.PSs.conv {X : Cx} {e : List Stmt} {t t' : TS} (h : PSs X e t) (k : ∀ E σ H, t' E σ H → t E σ H) : PSs X e t' := ⟨fun pins s σ H E I q => h.run pins s σ H E I (k E σ H q)⟩

/-! ### what only grows -/
theorem Step.same {ι : Io} {H H' : Hp} (e : Same H H') : Step ι H ι H' where
  len := Nat.le_refl _
  pre := fun i o h _ => .inl h
  keep := fun b o h _ _ => e b o h
  new := fun b h n => absurd h n
  tbl := fun b ps h => ⟨#[], by rw [e b _ h]; simp⟩
  hid := rfl
theorem MObj.toM {G : Gx} {H H' : Hp} {ι ι' : Io} (s : Mv ι H ι' H') {a : Addr} {o : MO} (k : H' a = H a) (h : MObj G H ι a o) : MObj G H' ι' a o := by
  cases o with
  | lst xs => obtain ⟨vs, e, r⟩ := h; exact ⟨vs, by rw [k]; exact e, RepL.mv s _ _ r⟩
  | dK ks xs => obtain ⟨vs, e, l, r⟩ := h; exact ⟨vs, by rw [k]; exact e, l, RepL.mv s _ _ r⟩
  | dT ks xs => obtain ⟨o, ys, vs, e, t, e1, e2, r1, q, r2⟩ := h; exact ⟨o, ys, vs, by rw [k]; exact e, t, e1, e2, RepL.mv s _ _ r1, q, RepL.mv s _ _ r2⟩
  | ins C ns ds => obtain ⟨dx, vs, e, l, r⟩ := h; exact ⟨dx, vs, by rw [k]; exact e, l, RepL.mv s _ _ r⟩
theorem MObj.to {G : Gx} {H H' : Hp} {ι ι' : Io} (s : Step ι H ι' H') {a : Addr} {o : MO} (k : H' a = H a) (h : MObj G H ι a o) : MObj G H' ι' a o := h.toM s.mv k
theorem MObj.some_ {G : Gx} {H : Hp} {ι : Io} {a : Addr} {o : MO} (h : MObj G H ι a o) : ∃ u, H a = some u := by
  cases o with
  | lst xs => obtain ⟨vs, e, _⟩ := h; exact ⟨_, e⟩
  | dK ks xs => obtain ⟨vs, e, _⟩ := h; exact ⟨_, e⟩
  | dT ks xs => obtain ⟨o, ys, vs, e, _⟩ := h; exact ⟨_, e⟩
  | ins C ns ds => obtain ⟨dx, vs, e, _⟩ := h; exact ⟨_, e⟩
theorem MRel.same {G : Gx} {H H' : Hp} {ι : Io} {m : Mem} (r : MRel G H ι m) (e : Same H H') : MRel G H' ι m :=
  ⟨r.len, r.inj, fun i a h => let ⟨o, q, ob⟩ := r.obj i a h; let ⟨u, hu⟩ := ob.some_; ⟨o, q, ob.to (.same e) (by rw [hu]; exact e a u hu)⟩, r.gon, fun a h => let ⟨⟨u, hu⟩, n⟩ := r.hid a h; ⟨⟨u, e a u hu⟩, n⟩⟩
theorem Same.upd {H : Hp} {p : Addr} {o : HO} (h : H p = none) : Same H (upd H p o) := fun b u e => by
  rw [upd_ne (ne_of_none e h)]
  exact e
theorem MRel.fresh {G : Gx} {H : Hp} {ι : Io} {m : Mem} (r : MRel G H ι m) {p : Addr} (h : H p = none) : ι.fre p := by
  refine ⟨fun z => ?_, fun z => ?_⟩
  · obtain ⟨i, hi, e⟩ := List.mem_iff_getElem.mp z
    obtain ⟨o, _, ob⟩ := r.obj i p (by rw [List.getElem?_eq_getElem hi, e])
    obtain ⟨u, hu⟩ := ob.some_
    rw [h] at hu; cases hu
  · obtain ⟨⟨u, hu⟩, _⟩ := r.hid p z
    rw [h] at hu; cases hu

/-! ### the datum at hand -/
/-- as Rep, of what may still be written to -/
def Rn (G : Gx) (H : Hp) (ι : Io) : P → V → Prop
  | .lst xs, v => ∃ a vs, v = .ref a ∧ Rd H a (.lst vs) ∧ RepL G H ι xs vs
  | .dK ks xs, v => ∃ a vs, v = .ref a ∧ Rd H a (.dK (ks.zip vs)) ∧ ks.length = xs.length ∧ RepL G H ι xs vs
  | .dT ks xs, v => ∃ a o ys vs, v = .ref a ∧ Rd H a (ExactO a o) ∧ TabO G a o ys ∧ ys.map (·.1) = P.nkL ks ∧ P.keyedL ks = true ∧ RepL G H ι ks (ys.map fun y => V.ref y.2.1) ∧ Vals vs (ys.map fun y => y.2.2) ∧ RepL G H ι xs vs
  | x, v => Rep G H ι x v
theorem Rep.rn {G : Gx} {H : Hp} {ι : Io} {x : P} {v : V} (h : Rep G H ι x v) : Rn G H ι x v := by
  cases x with
  | lst xs =>
    simp only [Rep] at h
    obtain ⟨a, vs, e, t, r⟩ := h
    exact ⟨a, vs, e, t.rd, r⟩
  | dK ks xs =>
    simp only [Rep] at h
    obtain ⟨a, o, vs, e, t, l, r⟩ := h
    exact ⟨a, vs, e, .inr ⟨o, t.1⟩, l, r⟩
  | dT ks xs =>
    simp only [Rep] at h
    obtain ⟨a, o, ys, vs, e, t, r⟩ := h
    exact ⟨a, o, ys, vs, e, .inr ⟨o, t.1⟩, r⟩
  | _ => exact h
/-- what is seen of a value -/
def seen : Option (Option MO) → Option P
  | some (some (.lst xs)) => some (.lst xs)
  | some (some (.dK ks xs)) => some (.dK ks xs)
  | some (some (.dT ks xs)) => some (.dT ks xs)
  | _ => none
def view (d : D) (m : Mem) : Option P := match d with
  | .p x => some x
  | .ref i => seen m[i]?
  | .und => none
@[simp] theorem view_ref (i : Nat) (m : Mem) : view (.ref i) m = seen m[i]? := rfl
@[simp] theorem view_p (x : P) (m : Mem) : view (.p x) m = some x := rfl
theorem MRel.live {G : Gx} {H : Hp} {ι : Io} {m : Mem} (r : MRel G H ι m) {i : Nat} {o : MO} (h : m[i]? = some (some o)) {a : Addr} (q : ι.at_[i]? = some (some a) ∨ ι.at_[i]? = some none) : ι.at_[i]? = some (some a) ∧ MObj G H ι a o := by
  rcases q with q | q
  · obtain ⟨o', e, ob⟩ := r.obj i a q
    rw [h] at e; cases e
    exact ⟨q, ob⟩
  · rw [r.gon i q] at h; cases h
theorem rn_view {G : Gx} {H : Hp} {ι : Io} {m : Mem} {d : D} {v : V} {x : P} (M : MRel G H ι m) (r : RepD G H ι d v) (h : view d m = some x) : Rn G H ι x v := by
  cases d with
  | p y => cases h; exact Rep.rn r
  | und => cases h
  | ref i =>
    obtain ⟨a, e, q⟩ := r
    subst e
    rw [view_ref] at h
    cases hm : m[i]? with
    | none => rw [hm] at h; cases h
    | some o =>
      rw [hm] at h
      cases o with
      | none => cases h
      | some o =>
        cases o with
        | lst xs =>
          cases h
          obtain ⟨_, vs, e, r⟩ := M.live hm q
          exact ⟨a, vs, rfl, .inl e, r⟩
        | dK ks xs =>
          cases h
          obtain ⟨_, vs, e, l, r⟩ := M.live hm q
          exact ⟨a, vs, rfl, .inl e, l, r⟩
        | dT ks xs =>
          cases h
          obtain ⟨_, o, ys, vs, e, r⟩ := M.live hm q
          exact ⟨a, o, ys, vs, rfl, .inl e, r⟩
        | ins C ns ds => cases h

mutual
theorem Rep.dp {G : Gx} {H : Hp} {ι : Io} : ∀ (x : P) (v : V), x.plain = true → Rep G H ι x v → Dp G.K H v x.py
  | .non, v, _, h => by simp only [Rep] at h; rw [h]; exact .non
  | .bl b, v, _, h => by simp only [Rep] at h; rw [h]; exact .bl b
  | .int i, v, _, h => by simp only [Rep] at h; rw [h]; exact .int i
  | .str s, v, _, h => by simp only [Rep] at h; rw [h]; exact .str s
  | .tup xs, v, p, h => by
    simp only [Rep] at h
    obtain ⟨a, vs, e, t, r⟩ := h
    rw [e, P.py]
    exact .tup t.sq (RepL.dp xs vs (by simpa [P.plain] using p) r)
  | .lst xs, v, p, h => by
    simp only [Rep] at h
    obtain ⟨a, vs, e, t, r⟩ := h
    rw [e, P.py]
    exact .lst t.sq (RepL.dp xs vs (by simpa [P.plain] using p) r)
  | .dK _ _, _, p, _ => by simp [P.plain] at p
  | .dT _ _, _, p, _ => by simp [P.plain] at p
  | .obj _ _ _, _, p, _ => by simp [P.plain] at p
  | .exc _ _ _, _, p, _ => by simp [P.plain] at p
theorem RepL.dp {G : Gx} {H : Hp} {ι : Io} : ∀ (xs : List P) (vs : List V), P.plainL xs = true → RepL G H ι xs vs → DpAll G.K H vs (P.pyL xs)
  | [], vs, _, h => by simp only [RepL] at h; rw [h, P.pyL]; exact .nil
  | x :: xs, vs, p, h => by
    simp only [RepL] at h
    obtain ⟨v, r, e, h1, h2⟩ := h
    rw [P.plainL, Bool.and_eq_true] at p
    rw [e, P.pyL]
    exact .cons (Rep.dp x v p.1 h1) (RepL.dp xs r p.2 h2)
end
theorem Rn.dp {G : Gx} {H : Hp} {ι : Io} {x : P} {v : V} (p : x.plain = true) (h : Rn G H ι x v) : Dp G.K H v x.py := by
  cases x with
  | lst xs =>
    obtain ⟨a, vs, e, t, r⟩ := h
    rw [e, P.py]
    exact .lst (.inl t) (RepL.dp xs vs (by simpa [P.plain] using p) r)
  | dK ks xs => simp [P.plain] at p
  | dT ks xs => simp [P.plain] at p
  | _ => exact Rep.dp (ι := ι) _ _ p h
theorem Rn.reads {X : Cx} {pins : List (Addr × Obj)} {σ : L2.St} {H : Hp} {s : Shared} (I : Inv X pins σ H s) {ι : Io} {x : P} {v : V} {u : Value} (p : x.plain = true) (h : Rn (gx X) H ι x v) (r : RelV v u) : ∃ as, Reads s.heap u x.py as :=
  Dp.reads I _ _ _ (Rn.dp p h) r

/-! ### depth -/
mutual
def P.dep : P → Nat
  | .tup xs => P.depL xs + 1
  | .lst xs => P.depL xs + 1
  | _ => 0
def P.depL : List P → Nat
  | [] => 0
  | x :: xs => max (P.dep x) (P.depL xs)
end
mutual
theorem P.dep_py : ∀ x : P, x.py.depth = x.dep
  | .non => by simp [P.py, P.dep, PyData.depth]
  | .bl _ => by simp [P.py, P.dep, PyData.depth]
  | .int _ => by simp [P.py, P.dep, PyData.depth]
  | .str _ => by simp [P.py, P.dep, PyData.depth]
  | .tup xs => by simp only [P.py, P.dep, PyData.depth]; rw [P.depL_py xs]
  | .lst xs => by simp only [P.py, P.dep, PyData.depth]; rw [P.depL_py xs]
  | .dK _ _ => by simp [P.py, P.dep, PyData.depth]
  | .dT _ _ => by simp [P.py, P.dep, PyData.depth]
  | .obj _ _ _ => by simp [P.py, P.dep, PyData.depth]
  | .exc _ _ _ => by simp [P.py, P.dep, PyData.depth]
theorem P.depL_py : ∀ xs : List P, PyData.depthAll (P.pyL xs) = P.depL xs
  | [] => by simp [P.pyL, P.depL, PyData.depthAll]
  | x :: xs => by simp only [P.pyL, P.depL, PyData.depthAll]; rw [P.dep_py x, P.depL_py xs]
end
mutual
theorem P.plain_py : ∀ x : P, x.plain = true → x.py.plain = true
  | .non, _ => rfl
  | .bl _, _ => rfl
  | .int _, _ => rfl
  | .str _, _ => rfl
  | .tup xs, h => by simp only [P.py, PyData.plain]; exact P.plainL_py xs (by simpa [P.plain] using h)
  | .lst xs, h => by simp only [P.py, PyData.plain]; exact P.plainL_py xs (by simpa [P.plain] using h)
  | .dK _ _, h => by simp [P.plain] at h
  | .dT _ _, h => by simp [P.plain] at h
  | .obj _ _ _, h => by simp [P.plain] at h
  | .exc _ _ _, h => by simp [P.plain] at h
theorem P.plainL_py : ∀ xs : List P, P.plainL xs = true → PyData.plainAll (P.pyL xs) = true
  | [], _ => rfl
  | x :: xs, h => by
    rw [P.plainL, Bool.and_eq_true] at h
    simp only [P.pyL, PyData.plainAll, P.plain_py x h.1, P.plainL_py xs h.2, Bool.and_self]
end
/-- plain data, not too deep -/
def P.fit (x : P) : Bool := x.plain && decide (x.dep ≤ 100)

/-! ### values in, a value out -/
def rP1 (X : Cx) (g : P → Option P) : V → Hp → VK → Prop := fun x H Q => ∃ ι a z, Rn (gx X) H ι a x ∧ g a = some z ∧ (∀ p, H p = none → ι.fre p) ∧ ∀ v H', Same H H' → Rep (gx X) H' ι z v → Q v H'
def rP2 (X : Cx) (g : P → P → Option P) : R2 := fun x y H Q => ∃ ι a b z, Rn (gx X) H ι a x ∧ Rn (gx X) H ι b y ∧ g a b = some z ∧ (∀ p, H p = none → ι.fre p) ∧ ∀ v H', Same H H' → Rep (gx X) H' ι z v → Q v H'
def rPL (X : Cx) (g : List P → Option P) : List V → Hp → VK → Prop := fun xs H Q => ∃ ι as z, Paired (fun a x => Rn (gx X) H ι a x) as xs ∧ g as = some z ∧ (∀ p, H p = none → ι.fre p) ∧ ∀ v H', Same H H' → Rep (gx X) H' ι z v → Q v H'
def op1 (g : P → Option P) (d : D) (m : Mem) : ER D := match (view d m).bind g with
  | some z => .ok (.p z) m
  | none => .bad
def op2 (g : P → P → Option P) (d e : D) (m : Mem) : ER D := match (view d m).bind fun x => (view e m).bind fun y => g x y with
  | some z => .ok (.p z) m
  | none => .bad
def views : List D → Mem → Option (List P)
  | [], _ => some []
  | d :: ds, m => (view d m).bind fun x => (views ds m).bind fun xs => some (x :: xs)
def opL (g : List P → Option P) (ds : List D) (m : Mem) : ER D := match (views ds m).bind g with
  | some z => .ok (.p z) m
  | none => .bad
@[simp] theorem op1_p (g : P → Option P) (x : P) (m : Mem) : op1 g (.p x) m = match g x with | some z => .ok (.p z) m | none => .bad := rfl
@[simp] theorem op2_p (g : P → P → Option P) (x y : P) (m : Mem) : op2 g (.p x) (.p y) m = match g x y with | some z => .ok (.p z) m | none => .bad := rfl
section
variable {X : Cx} {W : WX} {σ : L2.St} {ι : Io} {H : Hp} {m : Mem} {Q : VK}
theorem ERP.fin {x : P} (M : MRel (gx X) H ι m) (h : ERP (gx X) W σ ι H (fun H ι => RepD (gx X) H ι) (.ok (.p x) m) Q) : ∀ v H', Same H H' → Rep (gx X) H' ι x v → Q v H' :=
  fun v H' s r => h v H' ι (.same s) (M.same s) r
theorem ERP.op1 {g : P → Option P} {d : D} {v : V} (M : MRel (gx X) H ι m) (r : RepD (gx X) H ι d v) (h : ERP (gx X) W σ ι H (fun H ι => RepD (gx X) H ι) (op1 g d m) Q) : rP1 X g v H Q := by
  unfold DL.op1 at h
  cases e : (view d m).bind g with
  | none => rw [e] at h; exact h.elim
  | some z =>
    rw [e] at h
    obtain ⟨x, hx, hz⟩ := Option.bind_eq_some_iff.mp e
    exact ⟨ι, x, z, rn_view M r hx, hz, fun p hp => M.fresh hp, ERP.fin M h⟩
theorem ERP.op2 {g : P → P → Option P} {d e : D} {v u : V} (M : MRel (gx X) H ι m) (r : RepD (gx X) H ι d v) (r' : RepD (gx X) H ι e u) (h : ERP (gx X) W σ ι H (fun H ι => RepD (gx X) H ι) (op2 g d e m) Q) : rP2 X g v u H Q := by
  unfold DL.op2 at h
  cases q : (view d m).bind fun x => (view e m).bind fun y => g x y with
  | none => rw [q] at h; exact h.elim
  | some z =>
    rw [q] at h
    obtain ⟨x, hx, q2⟩ := Option.bind_eq_some_iff.mp q
    obtain ⟨y, hy, hz⟩ := Option.bind_eq_some_iff.mp q2
    exact ⟨ι, x, y, z, rn_view M r hx, rn_view M r' hy, hz, fun p hp => M.fresh hp, ERP.fin M h⟩
theorem rn_views (M : MRel (gx X) H ι m) : ∀ {ds : List D} {vs : List V} {xs : List P}, RepDL (gx X) H ι ds vs → views ds m = some xs → Paired (fun a x => Rn (gx X) H ι a x) xs vs
  | [], vs, xs, r, h => by
    rw [show vs = [] from r]
    cases h
    exact .nil
  | d :: ds, vs, xs, r, h => by
    obtain ⟨v, t, e, r1, r2⟩ := r
    subst e
    unfold views at h
    obtain ⟨x, hx, h2⟩ := Option.bind_eq_some_iff.mp h
    obtain ⟨ys, hy, h3⟩ := Option.bind_eq_some_iff.mp h2
    cases h3
    exact .cons (rn_view M r1 hx) (rn_views M r2 hy)
theorem ERP.opL {g : List P → Option P} {ds : List D} {vs : List V} (M : MRel (gx X) H ι m) (r : RepDL (gx X) H ι ds vs) (h : ERP (gx X) W σ ι H (fun H ι => RepD (gx X) H ι) (opL g ds m) Q) : rPL X g vs H Q := by
  unfold DL.opL at h
  cases q : (views ds m).bind g with
  | none => rw [q] at h; exact h.elim
  | some z =>
    rw [q] at h
    obtain ⟨xs, hx, hz⟩ := Option.bind_eq_some_iff.mp q
    exact ⟨ι, xs, z, rn_views M r hx, hz, fun p hp => M.fresh hp, ERP.fin M h⟩
end

/-! ### expressions -/
section
variable {X : Cx} {W : WX} {a b c e : Expr} {es : List Expr} {fa fb fc : FE} {pos : Pos}
def sName (i : Nat) : FE := fun δ m => match δ[i]? with
  | some .und => .bad
  | some d => .ok d m
  | none => .bad
theorem de_name (i : Nat) {x : Str} (hN : X.N[i]? = some x := by rfl) (hv : Vis X.env.scope x := by first | exact Or.inl rfl | exact Or.inr (Or.inl rfl) | exact Or.inr (Or.inr rfl)) (hd : (x == ("__debug__" : Str)) = false := by decide)
    (hcd : (x == ("__classdict__" : Str)) = false := by decide) : DE X W (.Name x pos) (sName i) := (pe_var hN hv hd hcd).conv fun σ H Q ⟨δ, m, ι, S, M, h⟩ => by
  unfold sName at h
  cases q : δ[i]? with
  | none => rw [q] at h; exact h.elim
  | some d =>
    rw [q] at h
    cases d with
    | und => exact h.elim
    | p x =>
      obtain ⟨v, hs, r⟩ := S.at_ i _ q (by intro z; cases z)
      exact ⟨v, hs, h v H ι (.refl _ _) M r⟩
    | ref j =>
      obtain ⟨v, hs, r⟩ := S.at_ i _ q (by intro z; cases z)
      exact ⟨v, hs, h v H ι (.refl _ _) M r⟩
def sC (x : P) : FE := fun _ m => .ok (.p x) m
theorem de_int {i j} : DE X W (.Constant (.int i) j pos) (sC (.int i)) := pe_int.conv fun σ H Q ⟨δ, m, ι, S, M, h⟩ => h (.int i) H ι (.refl _ _) M (by simp [RepD, Rep])
theorem de_bl {i j} : DE X W (.Constant (.bool i) j pos) (sC (.bl i)) := pe_bl.conv fun σ H Q ⟨δ, m, ι, S, M, h⟩ => h (.bl i) H ι (.refl _ _) M (by simp [RepD, Rep])
theorem de_str {i j} : DE X W (.Constant (.str i) j pos) (sC (.str i)) := pe_str.conv fun σ H Q ⟨δ, m, ι, S, M, h⟩ => h (.str i) H ι (.refl _ _) M (by simp [RepD, Rep])
theorem de_non {j} : DE X W (.Constant .none j pos) (sC .non) := pe_non.conv fun σ H Q ⟨δ, m, ι, S, M, h⟩ => h .non H ι (.refl _ _) M (by simp [RepD, Rep])
/-- a constant of the module -/
def KonV (X : Cx) (x : Str) (z : P) : Prop := ∃ u v, X.mg x = some u ∧ RelV v u ∧ ∀ H ι, Rep (gx X) H ι z v
theorem de_glob {x : Str} {z : P} (k : KonV X x z) (hg : Gl X x := by rfl) (hd : (x == ("__debug__" : Str)) = false := by decide) : DE X W (.Name x pos) (sC z) := by
  obtain ⟨u, v, hm, r, hz⟩ := k
  exact (pe_glob hg hm r hd).conv fun σ H Q ⟨δ, m, ι, S, M, h⟩ => h v H ι (.refl _ _) M (hz H ι)
def sOp (g : P → P → Option P) (fa fb : FE) : FE := fun δ m => (fa δ m).bind fun d m => (fb δ m).bind fun e m => op2 g d e m
theorem de_op {op : Operator} {g : P → P → Option P} (ho : OpR X (binaryOp op) (rP2 X g)) (ha : DE X W a fa) (hb : DE X W b fb) : DE X W (.BinOp a op b pos) (sOp g fa fb) :=
  (pe_op ho ha hb).conv fun σ H Q ⟨δ, m, ι, S, M, h⟩ =>
    ⟨δ, m, ι, S, M, h.seq fun d m1 v H1 ι1 _ s1 M1 r1 h1 => ⟨δ, m1, ι1, S.step s1, M1, h1.seq fun e m2 u H2 ι2 _ s2 M2 r2 h2 => ERP.op2 M2 (r1.step s2) r2 h2⟩⟩
theorem de_cmp {op : CmpOp} {g : P → P → Option P} (ho : OpR X (compareOp op) (rP2 X g)) (ha : DE X W a fa) (hb : DE X W b fb) (hm : behindInMarks op b = false := by first | exact nomark _ | rfl) : DE X W (.Compare a [op] [b] pos) (sOp g fa fb) :=
  (pe_cmpR ho ha hb hm).conv fun σ H Q ⟨δ, m, ι, S, M, h⟩ =>
    ⟨δ, m, ι, S, M, h.seq fun d m1 v H1 ι1 _ s1 M1 r1 h1 => ⟨δ, m1, ι1, S.step s1, M1, h1.seq fun e m2 u H2 ι2 _ s2 M2 r2 h2 => ERP.op2 M2 (r1.step s2) r2 h2⟩⟩
def sUn (g : P → Option P) (fa : FE) : FE := fun δ m => (fa δ m).bind fun d m => op1 g d m
theorem de_un {op : UnaryOp} {g : P → Option P} (ho : UnR X (unaryOp op) (rP1 X g)) (ha : DE X W a fa) : DE X W (.UnaryOp op a pos) (sUn g fa) :=
  (pe_un ho ha).conv fun σ H Q ⟨δ, m, ι, S, M, h⟩ => ⟨δ, m, ι, S, M, h.seq fun d m1 v H1 ι1 _ s1 M1 r1 h1 => ERP.op1 M1 r1 h1⟩
/-- the truth of a value that is a bool -/
def asB (d : D) (m : Mem) : ER Bool := match d with
  | .p (.bl b) => .ok b m
  | _ => .bad
def sB (fa : FE) : FB := fun δ m => (fa δ m).bind asB
theorem asB_rep {G : Gx} {σ : L2.St} {H : Hp} {ι : Io} {m : Mem} {d : D} {v : V} {Q : Bool → Hp → Prop} (M : MRel G H ι m) (r : RepD G H ι d v) (h : ERP G W σ ι H (fun _ _ (b : Bool) b' => b = b') (asB d m) Q) : ∃ k, v = .bl k ∧ Q k H := by
  unfold asB at h
  split at h
  · rename_i k
    simp only [RepD, Rep] at r
    exact ⟨k, r, h k H ι (.refl _ _) M rfl⟩
  · exact h.elim
theorem db_cmp {op : CmpOp} {g : P → P → Option P} (ho : OpR X (compareOp op) (rP2 X g)) (ha : DE X W a fa) (hb : DE X W b fb) (hm : behindInMarks op b = false := by first | exact nomark _ | rfl) : DB X W (.Compare a [op] [b] pos) (sB (sOp g fa fb)) :=
  (pt_cmpR ho ha hb hm).conv fun σ H Q ⟨δ, m, ι, S, M, h⟩ => by
    refine ⟨δ, m, ι, S, M, ?_⟩
    unfold sB sOp at h
    cases q : fa δ m with
    | bad => rw [q] at h; exact h
    | ex x m1 => rw [q] at h; exact h
    | ok d m1 =>
      rw [q] at h
      intro v H1 ι1 s1 M1 r1
      refine ⟨δ, m1, ι1, S.step s1, M1, ?_⟩
      have h1 := h.step s1
      simp only [ER.bind_ok] at h1
      cases q2 : fb δ m1 with
      | bad => rw [q2] at h1; exact h1
      | ex x m2 => rw [q2] at h1; exact h1
      | ok e m2 =>
        rw [q2] at h1
        intro u H2 ι2 s2 M2 r2
        have h2 := h1.step s2
        simp only [ER.bind_ok] at h2
        refine ERP.op2 (σ := σ) (W := W) (m := m2) M2 (r1.step s2) r2 ?_
        exact ERP.seq (rel := fun H ι => RepD (gx X) H ι) h2 fun z m3 w H3 ι3 _ s3 M3 r3 h3 => asB_rep M3 r3 h3
/-- two comparisons in a row -/
def sChain (g g' : P → P → Option P) (fa fb fc : FE) : FE := fun δ m => (fa δ m).bind fun d m => (fb δ m).bind fun e m => (op2 g d e m).bind fun z m => (asB z m).bind fun k m => if k = true then (fc δ m).bind fun c m => op2 g' e c m else .ok (.p (.bl false)) m
theorem chain_conv {g g' : P → P → Option P} (σ : L2.St) (H : Hp) (Q : VK) : tD X W (sChain g g' fa fb fc) σ H Q → tChain (rP2 X g) (rP2 X g') (tD X W fa) (tD X W fb) (tD X W fc) σ H Q := fun ⟨δ, m, ι, S, M, h⟩ =>
    ⟨δ, m, ι, S, M, h.seq fun d m1 v H1 ι1 _ s1 M1 r1 h1 => ⟨δ, m1, ι1, S.step s1, M1, h1.seq fun e m2 u H2 ι2 _ s2 M2 r2 h2 => ERP.op2 (σ := σ) (W := W) (m := m2) M2 (r1.step s2) r2 (h2.seq fun z m3 w H3 ι3 q3 s3 M3 r3 h3 => by
      clear q3
      unfold asB at h3
      split at h3
      · rename_i k
        simp only [RepD, Rep] at r3
        refine ⟨k, r3, ?_⟩
        simp only [ER.bind_ok] at h3
        cases k with
        | false =>
          rw [if_neg (by decide)] at h3
          rw [if_neg (by decide)]
          exact h3 (.bl false) H3 ι3 (.refl _ _) M3 (by simp [RepD, Rep])
        | true =>
          rw [if_pos rfl] at h3
          rw [if_pos rfl]
          exact ⟨δ, m3, ι3, S.step (s1.trans (s2.trans s3)), M3, h3.seq fun c m4 w' H4 ι4 _ s4 M4 r4 h4 => ERP.op2 M4 (r2.step (s3.trans s4)) r4 h4⟩
      · exact h3.elim)⟩⟩
theorem de_chain {op op' : CmpOp} {g g' : P → P → Option P} (ho : OpR X (compareOp op) (rP2 X g)) (ho' : OpR X (compareOp op') (rP2 X g')) (ha : DE X W a fa) (hb : DE X W b fb) (hc : DE X W c fc)
    (hm : lastMarks [op, op'] [b, c] = false := by with_unfolding_all rfl) : DE X W (.Compare a [op, op'] [b, c] pos) (sChain g g' fa fb fc) :=
  (pe_chain ho ho' ha hb hc hm).conv fun σ H Q h => chain_conv σ H Q h
/-- any value that is a bool, as a test -/
theorem db_val (ha : DE X W e fa) (he : ∀ whole, isTrue e X.env whole = (do let v ← whole; standAt e.pos; holding [v] (truthy v)) := by intro _; rfl) : DB X W e (sB fa) :=
  (pt_val ha he).conv fun σ H Q ⟨δ, m, ι, S, M, h⟩ => ⟨δ, m, ι, S, M, h.seq fun d m1 v H1 ι1 _ s1 M1 r1 h1 => asB_rep M1 r1 h1⟩
end
end DL

set_option Elab.async false
set_option linter.all false
set_option maxRecDepth 100000
/-! The data layer, part c: operators by values. -/
namespace DL
open PySem PySem.Spec PyProof.Rows L2

section
variable {G : Gx} {H : Hp} {ι : Io}
theorem rep_int {i : Int} : Rep G H ι (.int i) (.int i) := by simp [Rep]
theorem rep_bl {i : Bool} : Rep G H ι (.bl i) (.bl i) := by simp [Rep]
theorem rep_str {i : Str} : Rep G H ι (.str i) (.str i) := by simp [Rep]
theorem rep_non : Rep G H ι .non .non := by simp [Rep]
theorem rn_int {i : Int} {x : V} (h : Rn G H ι (.int i) x) : x = .int i := by simpa [Rn, Rep] using h
theorem rn_bl {i : Bool} {x : V} (h : Rn G H ι (.bl i) x) : x = .bl i := by simpa [Rn, Rep] using h
theorem rn_str {i : Str} {x : V} (h : Rn G H ι (.str i) x) : x = .str i := by simpa [Rn, Rep] using h
theorem rn_non {x : V} (h : Rn G H ι .non x) : x = .non := by simpa [Rn, Rep] using h
theorem rn_tup {xs : List P} {x : V} (h : Rn G H ι (.tup xs) x) : ∃ a vs, x = .ref a ∧ StT G.K H ι a vs ∧ RepL G H ι xs vs := by simpa [Rn, Rep] using h
theorem rn_lst {xs : List P} {x : V} (h : Rn G H ι (.lst xs) x) : ∃ a vs, x = .ref a ∧ Rd H a (.lst vs) ∧ RepL G H ι xs vs := h
/-- a new tuple, a new list -/
theorem rep_tup {xs : List P} {vs : List V} {p : Addr} {o : Obj} (hd : o.dict = none) (hp : H p = none) (f : ι.fre p) (r : RepL G H ι xs vs) : Rep G (upd H p (.frz o (.tup vs))) ι (.tup xs) (.ref p) := by
  simp only [Rep]
  exact ⟨p, vs, rfl, .inl ⟨o, ⟨upd_same, f⟩, hd⟩, RepL.step (.same (Same.upd hp)) _ _ r⟩
theorem rep_lst {xs : List P} {vs : List V} {p : Addr} (hp : H p = none) (f : ι.fre p) (r : RepL G H ι xs vs) : Rep G (upd H p (.lst vs)) ι (.lst xs) (.ref p) := by
  simp only [Rep]
  exact ⟨p, vs, rfl, .inl ⟨upd_same, f⟩, RepL.step (.same (Same.upd hp)) _ _ r⟩
theorem rep_tup0 {xs : List P} {vs : List V} {p : Addr} (h : StT G.K H ι p vs) (r : RepL G H ι xs vs) : Rep G H ι (.tup xs) (.ref p) := by
  simp only [Rep]
  exact ⟨p, vs, rfl, h, r⟩
end
section
variable {X : Cx} {pins : List (Addr × Obj)} {σ : L2.St} {H : Hp} {s : Shared} {a : Addr} {xs : List V}
/-- a new tuple, as it stands -/
abbrev tupObj (us : List Value) : Obj := { cls := .type "tuple", data := .seq us.toArray }
theorem tup_fin {vs : List V} {us : List Value} {Q : VK} {t' : Nat} (I : Inv X pins σ H s) (r : Vals vs us) (hz : vs.length ≤ sizeLine) (q : Q (.ref s.heap.objs.size) (upd H s.heap.objs.size (.frz (tupObj us) (.tup vs)))) :
    EP X pins σ Q (.ref s.heap.objs.size) { s with heap := s.heap.push (tupObj us), toks := t' } :=
  ⟨.ref s.heap.objs.size, _, I.laid (t' := t') (fun b ob e => Heap.get?_push_of_some _ e) (Nat.le_refl _) (show ObjOk X.prog X.w _ _ _ (.frz (tupObj us) (.tup vs)) from ⟨Heap.get?_push_size _ rfl, hz, us, r, IsTup.new _ _⟩), rfl, q⟩
/-- a list that is read, as it stands -/
theorem lst_rd (I : Inv X pins σ H s) (h : Rd H a (.lst xs)) : xs.length ≤ sizeLine ∧ ∃ (its : List Value) (n : Nat), Vals xs its ∧ s.heap.get? a = some { cls := .type "list", data := .seq its.toArray n } := h.ok I.hok
theorem lst_is (I : Inv X pins σ H s) (h : Rd H a (.lst xs)) : ∃ its : List Value, Vals xs its ∧ s.heap.IsList a its.toArray := by
  obtain ⟨_, its, n, r, e⟩ := lst_rd I h
  exact ⟨its, r, _, e, rfl, n, rfl⟩
end

/-! ### + - * // % ** -/
def pAdd : P → P → Option P
  | .int i, .int j => some (.int (i + j))
  | .str x, .str y => if x.length + y.length ≤ 16777216 then some (.str (x ++ y)) else none
  | .tup xs, .tup ys => if xs.length + ys.length ≤ 16777216 then some (.tup (xs ++ ys)) else none
  | .lst xs, .lst ys => if xs.length + ys.length ≤ 16777216 then some (.lst (xs ++ ys)) else none
  | _, _ => none
def pSub : P → P → Option P
  | .int i, .int j => some (.int (i - j))
  | _, _ => none
def pMul : P → P → Option P
  | .int i, .int j => if (-(2 ^ 64) < i ∧ i < 2 ^ 64) ∨ (-(2 ^ 64) < j ∧ j < 2 ^ 64) then some (.int (i * j)) else none
  | _, _ => none
def pMod : P → P → Option P
  | .int i, .int j => if 0 < j then some (.int (i % j)) else none
  | _, _ => none
def pDiv : P → P → Option P
  | .int i, .int j => if 0 < j ∧ j < 1073741824 then some (.int (i / j)) else none
  | _, _ => none
def pPow : P → P → Option P
  | .int i, .int j => if 0 ≤ j ∧ j ≤ 1000000 ∧ i.natAbs < 2 ^ 64 then some (.int (i ^ j.toNat)) else none
  | _, _ => none
def pNeg : P → Option P
  | .int i => some (.int (-i))
  | _ => none
section
variable {X : Cx}
theorem o_add : OpR X (binaryOp .Add) (rP2 X pAdd) := by
  intro pins s σ H x y v u Q I rx ry h
  obtain ⟨ι, a, b, z, ra, rb, g, fr, q⟩ := h
  unfold pAdd at g
  split at g
  · cases g
    exact op_add pins s σ H x y v u Q I rx ry ⟨_, _, rn_int ra, rn_int rb, q _ _ (.refl _) rep_int⟩
  · split at g
    · rename_i hl
      cases g
      exact op_add_str pins s σ H x y v u Q I rx ry ⟨_, _, rn_str ra, rn_str rb, by rw [sizeLine_eq]; exact hl, q _ _ (.refl _) rep_str⟩
    · cases g
  · split at g
    · rename_i xs ys hl
      cases g
      obtain ⟨p, vs, e, t, r⟩ := rn_tup ra
      obtain ⟨p', vs', e', t', r'⟩ := rn_tup rb
      subst e e'
      cases rx
      cases ry
      obtain ⟨its, w1, p1, _⟩ := I.tuple t.sq
      obtain ⟨its2, w2, p2, _⟩ := I.tuple t'.sq
      by_cases h0 : vs = []
      · subst h0
        have e0 : xs = [] := List.eq_nil_of_length_eq_zero r.length
        subst e0
        cases w1
        exact cat_tup0 p1 p2 ⟨.ref p', H, I, rfl, q _ _ (.refl _) (rep_tup0 t' r')⟩
      · refine HT.cat_tup p1 p2 (fun z => h0 (w1.nil_iff.mp z)) (fun z => ?_) (fun z => ?_) (by rw [← w1.length, ← w2.length, sizeLine_eq, ← r.length, ← r'.length]; exact hl)
        · have z2 := w2.nil_iff.mp z
          subst z2
          have e0 : ys = [] := List.eq_nil_of_length_eq_zero r'.length
          subst e0
          rw [List.append_nil] at q
          exact ⟨.ref p, H, I, rfl, q _ _ (.refl _) (rep_tup0 t r)⟩
        · exact tup_fin (t' := s.toks) I (w1.append w2) (by rw [List.length_append, sizeLine_eq, ← r.length, ← r'.length]; exact hl) (q _ _ (Same.upd I.fresh) (rep_tup rfl I.fresh (fr _ I.fresh) (r.append r')))
    · cases g
  · split at g
    · rename_i xs ys hl
      cases g
      obtain ⟨p, vs, e, t, r⟩ := rn_lst ra
      obtain ⟨p', vs', e', t', r'⟩ := rn_lst rb
      subst e e'
      cases rx
      cases ry
      obtain ⟨_, its, n, w, e⟩ := lst_rd I t
      obtain ⟨_, its', n', w', e'⟩ := lst_rd I t'
      have hl' : vs.length + vs'.length ≤ 16777216 := by rw [← r.length, ← r'.length]; exact hl
      refine PySem.P.add_list e e' ?_ (by rw [List.size_toArray, List.size_toArray, ← w.length, ← w'.length, sizeLine_eq]; exact hl')
      have ea : its.toArray ++ its'.toArray = (its ++ its').toArray := by simp
      rw [ea]
      exact ⟨.ref _, _, I.lnew (t' := s.toks) (w.append w') (by rw [List.length_append, sizeLine_eq]; exact hl'), rfl, q _ _ (Same.upd I.fresh) (rep_lst I.fresh (fr _ I.fresh) (r.append r'))⟩
    · cases g
  · cases g
theorem o_sub : OpR X (binaryOp .Sub) (rP2 X pSub) := by
  intro pins s σ H x y v u Q I rx ry h
  obtain ⟨ι, a, b, z, ra, rb, g, fr, q⟩ := h
  unfold pSub at g
  split at g
  · cases g
    exact op_sub pins s σ H x y v u Q I rx ry ⟨_, _, rn_int ra, rn_int rb, q _ _ (.refl _) rep_int⟩
  · cases g
theorem o_mul : OpR X (binaryOp .Mult) (rP2 X pMul) := by
  intro pins s σ H x y v u Q I rx ry h
  obtain ⟨ι, a, b, z, ra, rb, g, fr, q⟩ := h
  unfold pMul at g
  split at g
  · split at g
    · rename_i hc
      cases g
      exact op_mul pins s σ H x y v u Q I rx ry ⟨_, _, rn_int ra, rn_int rb, hc, q _ _ (.refl _) rep_int⟩
    · cases g
  · cases g
theorem o_mod : OpR X (binaryOp .Mod) (rP2 X pMod) := by
  intro pins s σ H x y v u Q I rx ry h
  obtain ⟨ι, a, b, z, ra, rb, g, fr, q⟩ := h
  unfold pMod at g
  split at g
  · split at g
    · rename_i hc
      cases g
      exact op_mod pins s σ H x y v u Q I rx ry ⟨_, _, rn_int ra, rn_int rb, hc, q _ _ (.refl _) rep_int⟩
    · cases g
  · cases g
theorem o_div : OpR X (binaryOp .FloorDiv) (rP2 X pDiv) := by
  intro pins s σ H x y v u Q I rx ry h
  obtain ⟨ι, a, b, z, ra, rb, g, fr, q⟩ := h
  unfold pDiv at g
  split at g
  · split at g
    · rename_i hc
      cases g
      exact op_fdiv pins s σ H x y v u Q I rx ry ⟨_, _, rn_int ra, rn_int rb, hc, q _ _ (.refl _) rep_int⟩
    · cases g
  · cases g
theorem o_pow : OpR X (binaryOp .Pow) (rP2 X pPow) := by
  intro pins s σ H x y v u Q I rx ry h
  obtain ⟨ι, a, b, z, ra, rb, g, fr, q⟩ := h
  unfold pPow at g
  split at g
  · split at g
    · rename_i hc
      cases g
      exact op_pow pins s σ H x y v u Q I rx ry ⟨_, _, rn_int ra, rn_int rb, hc, q _ _ (.refl _) rep_int⟩
    · cases g
  · cases g
theorem o_neg : UnR X (unaryOp .USub) (rP1 X pNeg) := by
  intro pins s σ H x v Q I rx h
  obtain ⟨ι, a, z, ra, g, fr, q⟩ := h
  unfold pNeg at g
  split at g
  · cases g
    exact un_neg pins s σ H x v Q I rx ⟨_, rn_int ra, q _ _ (.refl _) rep_int⟩
  · cases g
end

/-! ### == != -/
mutual
def P.eqv : P → P → Bool
  | .non, .non => true
  | .bl a, .bl b => a == b
  | .bl a, .int j => decide ((if a then 1 else 0) = j)
  | .int i, .bl b => decide (i = (if b then 1 else 0))
  | .int i, .int j => decide (i = j)
  | .str x, .str y => decide (x = y)
  | .tup xs, .tup ys => P.eqvL xs ys
  | .lst xs, .lst ys => P.eqvL xs ys
  | _, _ => false
def P.eqvL : List P → List P → Bool
  | [], [] => true
  | x :: xs, y :: ys => P.eqv x y && P.eqvL xs ys
  | _, _ => false
end
theorem beq_dec {α : Type} [DecidableEq α] (a b : α) : (a == b) = decide (a = b) := by
  by_cases h : a = b
  · subst h; simp
  · rw [decide_eq_false h]; exact beq_eq_false_iff_ne.mpr h
mutual
theorem P.eqv_py : ∀ a b : P, a.plain = true → b.plain = true → PyData.eqv a.py b.py = P.eqv a b
  | .non, b, _, h => by cases b <;> first | rfl | (simp [P.plain] at h; done)
  | .bl a, b, _, h => by cases b <;> first | rfl | (simp [P.py, PyData.eqv, P.eqv, beq_dec]; done) | (simp [P.plain] at h; done)
  | .int a, b, _, h => by cases b <;> first | (simp [P.py, PyData.eqv, P.eqv, beq_dec]; done) | (simp [P.plain] at h; done)
  | .str a, b, _, h => by cases b <;> first | (simp [P.py, PyData.eqv, P.eqv, beq_dec]; done) | (simp [P.plain] at h; done)
  | .tup xs, b, p, h => by
    cases b with
    | tup ys => simp only [P.py, PyData.eqv, P.eqv]; exact P.eqvL_py xs ys (by simpa [P.plain] using p) (by simpa [P.plain] using h)
    | _ => first | (simp [P.py, PyData.eqv, P.eqv]; done) | (simp [P.plain] at h; done)
  | .lst xs, b, p, h => by
    cases b with
    | lst ys => simp only [P.py, PyData.eqv, P.eqv]; exact P.eqvL_py xs ys (by simpa [P.plain] using p) (by simpa [P.plain] using h)
    | _ => first | (simp [P.py, PyData.eqv, P.eqv]; done) | (simp [P.plain] at h; done)
  | .dK _ _, _, p, _ => by simp [P.plain] at p
  | .dT _ _, _, p, _ => by simp [P.plain] at p
  | .obj _ _ _, _, p, _ => by simp [P.plain] at p
  | .exc _ _ _, _, p, _ => by simp [P.plain] at p
theorem P.eqvL_py : ∀ a b : List P, P.plainL a = true → P.plainL b = true → PyData.eqvAll (P.pyL a) (P.pyL b) = P.eqvL a b
  | [], [], _, _ => rfl
  | [], _ :: _, _, _ => rfl
  | _ :: _, [], _, _ => rfl
  | x :: xs, y :: ys, p, q => by
    rw [P.plainL, Bool.and_eq_true] at p q
    simp only [P.pyL, PyData.eqvAll, P.eqvL, P.eqv_py x y p.1 q.1, P.eqvL_py xs ys p.2 q.2]
end
def pEq (a b : P) : Option P := if a.fit = true ∧ b.plain = true then some (.bl (P.eqv a b)) else none
def pNe (a b : P) : Option P := if a.fit = true ∧ b.plain = true then some (.bl (!P.eqv a b)) else none
theorem fit_plain {a : P} (h : a.fit = true) : a.plain = true := by
  unfold P.fit at h
  rw [Bool.and_eq_true] at h
  exact h.1
theorem fit_dep {a : P} (h : a.fit = true) : a.dep ≤ 100 := by
  unfold P.fit at h
  rw [Bool.and_eq_true] at h
  exact of_decide_eq_true h.2
section
variable {X : Cx}
theorem o_eq (hu : X.A.units + 110 < cLine) : OpR X (compareOp .Eq) (rP2 X pEq) := by
  intro pins s σ H x y v u Q I rx ry h
  obtain ⟨ι, a, b, z, ra, rb, g, fr, q⟩ := h
  unfold pEq at g
  split at g
  · rename_i hc
    cases g
    obtain ⟨as, r1⟩ := ra.reads I (fit_plain hc.1) rx
    obtain ⟨bs, r2⟩ := rb.reads I hc.2 ry
    have hd := fit_dep hc.1
    refine SeqAt.eq_plain r1 r2 (P.plain_py _ (fit_plain hc.1)) (P.plain_py _ hc.2) (by rw [P.dep_py, P.dep_py]; have := Nat.min_le_left a.dep b.dep; omega) ?_
    rw [P.eqv_py a b (fit_plain hc.1) hc.2]
    exact ⟨.bl _, H, I, rfl, q _ _ (.refl _) rep_bl⟩
  · cases g
theorem o_ne (hu : X.A.units + 110 < cLine) : OpR X (compareOp .NotEq) (rP2 X pNe) := by
  intro pins s σ H x y v u Q I rx ry h
  obtain ⟨ι, a, b, z, ra, rb, g, fr, q⟩ := h
  unfold pNe at g
  split at g
  · rename_i hc
    cases g
    obtain ⟨as, r1⟩ := ra.reads I (fit_plain hc.1) rx
    obtain ⟨bs, r2⟩ := rb.reads I hc.2 ry
    have hd := fit_dep hc.1
    refine SeqAt.ne_plain r1 r2 (P.plain_py _ (fit_plain hc.1)) (P.plain_py _ hc.2) (by rw [P.dep_py, P.dep_py]; have := Nat.min_le_left a.dep b.dep; omega) ?_
    rw [P.eqv_py a b (fit_plain hc.1) hc.2]
    exact ⟨.bl _, H, I, rfl, q _ _ (.refl _) rep_bl⟩
  · cases g
end

/-! ### < <= > >= -/
def pLtD (a b : P) : Option Bool := if a.fit = true ∧ b.plain = true ∧ PySem.W.alike a.py b.py = true then some (PySem.W.dataLt a.py b.py) else none
def pLt : P → P → Option P
  | .int i, .int j => some (.bl (decide (i < j)))
  | .str x, .str y => some (.bl (decide (x.cps.toList < y.cps.toList)))
  | .tup xs, .tup ys => (pLtD (.tup xs) (.tup ys)).map .bl
  | .lst xs, .lst ys => (pLtD (.lst xs) (.lst ys)).map .bl
  | _, _ => none
def pLeD (a b : P) : Option Bool := if a.fit = true ∧ b.fit = true ∧ PySem.W.alike a.py b.py = true then some (!PySem.W.dataLt b.py a.py) else none
def pLe : P → P → Option P
  | .int i, .int j => some (.bl (decide (i ≤ j)))
  | .tup xs, .tup ys => (pLeD (.tup xs) (.tup ys)).map .bl
  | _, _ => none
def pGt : P → P → Option P
  | .int i, .int j => some (.bl (decide (j < i)))
  | _, _ => none
def pGe : P → P → Option P
  | .int i, .int j => some (.bl (decide (j ≤ i)))
  | _, _ => none
section
variable {X : Cx}
theorem o_ltD (hu : X.A.units + 110 < cLine) {a b : P} (hn : a.py ≠ .none) {z : P} {pins : List (Addr × Obj)} {s : Shared} {σ : L2.St} {H : Hp} {ι : Io} {x y : V} {v u : Value} {Q : VK} (I : Inv X pins σ H s) (rx : RelV x v) (ry : RelV y u)
    (ra : Rn (gx X) H ι a x) (rb : Rn (gx X) H ι b y) (g : (pLtD a b).map P.bl = some z) (q : ∀ v H', Same H H' → Rep (gx X) H' ι z v → Q v H') : wpAny (model X.prog X.w) X.A (compareOp .Lt v u) (EP X pins σ Q) X.xe s := by
  unfold pLtD at g
  split at g
  · rename_i hc
    cases g
    obtain ⟨as, r1⟩ := ra.reads I (fit_plain hc.1) rx
    obtain ⟨bs, r2⟩ := rb.reads I hc.2.1 ry
    have hd := fit_dep hc.1
    refine PySem.W.lt_data r1 r2 hc.2.2 hn (by rw [P.dep_py, P.dep_py]; have := Nat.min_le_left a.dep b.dep; omega) ?_
    exact ⟨.bl _, H, I, rfl, q _ _ (.refl _) rep_bl⟩
  · cases g
theorem o_lt (hu : X.A.units + 110 < cLine) : OpR X (compareOp .Lt) (rP2 X pLt) := by
  intro pins s σ H x y v u Q I rx ry h
  obtain ⟨ι, a, b, z, ra, rb, g, fr, q⟩ := h
  unfold pLt at g
  split at g
  · cases g
    exact op_lt pins s σ H x y v u Q I rx ry ⟨_, _, rn_int ra, rn_int rb, q _ _ (.refl _) rep_bl⟩
  · cases g
    exact op_lt_str pins s σ H x y v u Q I rx ry ⟨_, _, rn_str ra, rn_str rb, q _ _ (.refl _) rep_bl⟩
  · exact o_ltD hu (by simp [P.py]) I rx ry ra rb g q
  · exact o_ltD hu (by simp [P.py]) I rx ry ra rb g q
  · cases g
theorem o_le (hu : X.A.units + 110 < cLine) : OpR X (compareOp .LtE) (rP2 X pLe) := by
  intro pins s σ H x y v u Q I rx ry h
  obtain ⟨ι, a, b, z, ra, rb, g, fr, q⟩ := h
  unfold pLe at g
  split at g
  · cases g
    exact op_le pins s σ H x y v u Q I rx ry ⟨_, _, rn_int ra, rn_int rb, q _ _ (.refl _) rep_bl⟩
  · rename_i xs ys
    unfold pLeD at g
    split at g
    · rename_i hc
      cases g
      obtain ⟨as, r1⟩ := ra.reads I (fit_plain hc.1) rx
      obtain ⟨bs, r2⟩ := rb.reads I (fit_plain hc.2.1) ry
      have hd := fit_dep hc.1
      refine PySem.W.le_data r1 r2 hc.2.2 (by simp [P.py]) (by rw [P.dep_py, P.dep_py]; have := Nat.min_le_left (P.tup xs).dep (P.tup ys).dep; omega) ?_
      exact ⟨.bl _, H, I, rfl, q _ _ (.refl _) rep_bl⟩
    · cases g
  · cases g
theorem o_gt : OpR X (compareOp .Gt) (rP2 X pGt) := by
  intro pins s σ H x y v u Q I rx ry h
  obtain ⟨ι, a, b, z, ra, rb, g, fr, q⟩ := h
  unfold pGt at g
  split at g
  · cases g
    exact op_gt pins s σ H x y v u Q I rx ry ⟨_, _, rn_int ra, rn_int rb, q _ _ (.refl _) rep_bl⟩
  · cases g
theorem o_ge : OpR X (compareOp .GtE) (rP2 X pGe) := by
  intro pins s σ H x y v u Q I rx ry h
  obtain ⟨ι, a, b, z, ra, rb, g, fr, q⟩ := h
  unfold pGe at g
  split at g
  · cases g
    exact op_ge pins s σ H x y v u Q I rx ry ⟨_, _, rn_int ra, rn_int rb, q _ _ (.refl _) rep_bl⟩
  · cases g
end

/-! ### is None -/
def P.isNon : P → Bool
  | .non => true
  | _ => false
def pIsN (a b : P) : Option P := match b with
  | .non => some (.bl a.isNon)
  | _ => none
def pNotN (a b : P) : Option P := match b with
  | .non => some (.bl (!a.isNon))
  | _ => none
theorem rn_isNon {G : Gx} {H : Hp} {ι : Io} {a : P} {x : V} (h : Rn G H ι a x) : decide (x = .non) = a.isNon := by
  cases a with
  | non => rw [rn_non h]; rfl
  | bl b => rw [rn_bl h]; rfl
  | int b => rw [rn_int h]; rfl
  | str b => rw [rn_str h]; rfl
  | tup xs => obtain ⟨p, vs, e, _⟩ := rn_tup h; rw [e]; rfl
  | lst xs => obtain ⟨p, vs, e, _⟩ := rn_lst h; rw [e]; rfl
  | dK ks xs => obtain ⟨p, vs, e, _⟩ := h; rw [e]; rfl
  | dT ks xs => obtain ⟨p, o, ys, vs, e, _⟩ := h; rw [e]; rfl
  | obj C ns xs =>
    simp only [Rn, Rep] at h
    obtain ⟨p, dx, vs, e, _⟩ := h; rw [e]; rfl
  | exc C ns xs =>
    simp only [Rn, Rep] at h
    obtain ⟨p, dx, vs, e, _⟩ := h; rw [e]; rfl
section
variable {X : Cx}
theorem o_isN : OpR X (compareOp .Is) (rP2 X pIsN) := by
  intro pins s σ H x y v u Q I rx ry h
  obtain ⟨ι, a, b, z, ra, rb, g, fr, q⟩ := h
  unfold pIsN at g
  split at g
  · cases g
    refine op_isN pins s σ H x y v u Q I rx ry ⟨rn_non rb, ?_⟩
    rw [rn_isNon ra]
    exact q _ _ (.refl _) rep_bl
  · cases g
theorem o_notN : OpR X (compareOp .IsNot) (rP2 X pNotN) := by
  intro pins s σ H x y v u Q I rx ry h
  obtain ⟨ι, a, b, z, ra, rb, g, fr, q⟩ := h
  unfold pNotN at g
  split at g
  · cases g
    refine op_notN pins s σ H x y v u Q I rx ry ⟨rn_non rb, ?_⟩
    rw [rn_isNon ra]
    exact q _ _ (.refl _) rep_bl
  · cases g
end

/-! ### in, not in -/
/-- the key that a datum is, in a dict of ints and texts -/
def P.ky : P → Option Key
  | .int i => some (.inl i)
  | .str s => some (.inr s)
  | _ => none
theorem ky_rep {G : Gx} {H : Hp} {ι : Io} {a : P} {x : V} {k : Key} (e : a.ky = some k) (h : Rn G H ι a x) : x = kV k := by
  cases a with
  | int i => cases e; rw [rn_int h]; rfl
  | str i => cases e; rw [rn_str h]; rfl
  | _ => cases e
/-- what stands at a key, the first one -/
def lookK (k : Key) : List Key → List P → Option P
  | j :: ks, x :: xs => if j = k then some x else lookK k ks xs
  | _, _ => none
theorem lookK_val {G : Gx} {H : Hp} {ι : Io} (k : Key) : ∀ (ks : List Key) (xs : List P) (vs : List V), RepL G H ι xs vs → (match lookK k ks xs with | some x => ∃ v, valV (ks.zip vs) k = some v ∧ Rep G H ι x v | none => ks.length = xs.length → valV (ks.zip vs) k = none)
  | [], xs, vs, _ => by simp [lookK, valV_nil]
  | j :: ks, [], vs, _ => by simp [lookK]
  | j :: ks, x :: xs, vs, r => by
    simp only [RepL] at r
    obtain ⟨v, t, e, h1, h2⟩ := r
    subst e
    unfold lookK
    by_cases hj : j = k
    · rw [if_pos hj]
      exact ⟨v, by rw [List.zip_cons_cons, valV_pos hj], h1⟩
    · rw [if_neg hj]
      have ih := lookK_val k ks xs t h2
      rw [List.zip_cons_cons]
      cases q : lookK k ks xs with
      | some y =>
        rw [q] at ih
        obtain ⟨w, e, r⟩ := ih
        exact ⟨w, by rw [valV_neg hj]; exact e, r⟩
      | none =>
        rw [q] at ih
        intro hl
        rw [valV_neg hj]
        exact ih (by simpa using hl)
theorem lookK_isSome {k : Key} : ∀ {ks : List Key} {xs : List P}, ks.length = xs.length → (lookK k ks xs).isSome = ks.any fun j => decide (j = k)
  | [], xs, _ => by simp [lookK]
  | j :: ks, [], h => by simp at h
  | j :: ks, x :: xs, h => by
    unfold lookK
    by_cases hj : j = k
    · rw [if_pos hj]; simp [hj]
    · rw [if_neg hj, lookK_isSome (by simpa using h)]
      simp [hj]
/-- the place of a key that is a tuple -/
def lookT (k : NestedKey) : List P → List P → Option P
  | j :: ks, x :: xs => if j.nk = k then some x else lookT k ks xs
  | _, _ => none
def P.keyD (a : P) : Bool := a.keyed && decide (a.nk.depth ≤ 8)
def pIn (neg : Bool) (a b : P) : Option P := match b with
  | .str z => (match a with
    | .str c => if c.cps.size = 1 then some (.bl (xor neg (decide (c.cps.getD 0 0 ∈ z.cps.toList)))) else none
    | _ => none)
  | .tup ys => if a.fit = true ∧ P.plainL ys = true then some (.bl (xor neg (ys.any fun y => P.eqv y a))) else none
  | .lst ys => if a.fit = true ∧ P.plainL ys = true then some (.bl (xor neg (ys.any fun y => P.eqv y a))) else none
  | .dK ks xs => a.ky.map fun k => .bl (xor neg (lookK k ks xs).isSome)
  | .dT ks xs => (match a with
    | .tup as => if (P.tup as).keyD = true then some (.bl (xor neg (lookT (P.tup as).nk ks xs).isSome)) else none
    | _ => none)
  | _ => none
theorem any_py (a : P) (ha : a.plain = true) : ∀ ys : List P, P.plainL ys = true → ((P.pyL ys).any fun z => PyData.eqv z a.py) = ys.any fun y => P.eqv y a
  | [], _ => rfl
  | y :: ys, h => by
    rw [P.plainL, Bool.and_eq_true] at h
    rw [P.pyL, List.any_cons, List.any_cons, P.eqv_py y a h.1 ha, any_py a ha ys h.2]
end DL

set_option Elab.async false
set_option linter.all false
set_option maxRecDepth 100000
/-! The data layer, part d: keys that are tuples, in, subscripts, slices. -/
namespace DL
open PySem PySem.Spec PyProof.Rows L2

section
variable {X : Cx} {pins : List (Addr × Obj)} {σ : L2.St} {H : Hp} {s : Shared} {ι : Io}
mutual
theorem Rep.key (I : Inv X pins σ H s) : ∀ (x : P) (v : V) (u : Value), x.keyed = true → Rep (gx X) H ι x v → RelV v u → NestedIs s.heap x.nk u
  | .non, v, u, _, h, r => by simp only [Rep] at h; subst h; cases r; exact .none
  | .bl b, v, u, _, h, r => by simp only [Rep] at h; subst h; cases r; exact .bool rfl
  | .int i, v, u, _, h, r => by simp only [Rep] at h; subst h; obtain ⟨t, rfl⟩ := r; exact .int i t
  | .str i, v, u, _, h, r => by simp only [Rep] at h; subst h; obtain ⟨t, rfl⟩ := r; exact .text i t
  | .tup xs, v, u, p, h, r => by
    simp only [Rep] at h
    obtain ⟨a, vs, e, t, q⟩ := h
    subst e
    obtain rfl : u = Value.ref a := r
    obtain ⟨its, w, ⟨o, ho, hc, n, hd⟩, _⟩ := I.tuple t.sq
    rw [P.nk]
    exact .tup ho hc hd (RepL.key I xs vs its (by simpa [P.keyed] using p) q w)
  | .lst _, _, _, p, _, _ => by simp [P.keyed] at p
  | .dK _ _, _, _, p, _, _ => by simp [P.keyed] at p
  | .dT _ _, _, _, p, _, _ => by simp [P.keyed] at p
  | .obj _ _ _, _, _, p, _, _ => by simp [P.keyed] at p
  | .exc _ _ _, _, _, p, _, _ => by simp [P.keyed] at p
theorem RepL.key (I : Inv X pins σ H s) : ∀ (xs : List P) (vs : List V) (us : List Value), P.keyedL xs = true → RepL (gx X) H ι xs vs → Vals vs us → NestedAll s.heap (P.nkL xs) us
  | [], vs, us, _, h, r => by simp only [RepL] at h; subst h; cases r; exact .nil
  | x :: xs, vs, us, p, h, r => by
    simp only [RepL] at h
    obtain ⟨v, t, e, h1, h2⟩ := h
    subst e
    rw [P.keyedL, Bool.and_eq_true] at p
    cases r with
    | cons r1 r2 =>
      rw [P.nkL]
      exact .cons (Rep.key I x _ _ p.1 h1 r1) (RepL.key I xs _ _ p.2 h2 r2)
end
theorem tab_keys (I : Inv X pins σ H s) {ys : List (NestedKey × Addr × Value)} : ∀ {ks : List P}, ys.map (·.1) = P.nkL ks → P.keyedL ks = true → RepL (gx X) H ι ks (ys.map fun y => V.ref y.2.1) → ∀ y ∈ ys, NestedIs s.heap y.1 (.ref y.2.1) := by
  induction ys with
  | nil => intro ks _ _ _ y hy; cases hy
  | cons z ys ih =>
    intro ks e1 e2 r y hy
    cases ks with
    | nil => rw [P.nkL] at e1; cases e1
    | cons k ks =>
      rw [P.nkL, List.map_cons] at e1
      injection e1 with e3 e4
      rw [P.keyedL, Bool.and_eq_true] at e2
      rw [List.map_cons] at r
      simp only [RepL] at r
      obtain ⟨v, t, e, h1, h2⟩ := r
      injection e with e5 e6
      subst e5 e6
      rcases List.mem_cons.mp hy with rfl | hy
      · rw [e3]
        exact Rep.key I k _ _ e2.1 h1 rfl
      · exact ih e4 e2.2 h2 y hy
/-- the dict in the library's words -/
theorem tab_dict (I : Inv X pins σ H s) {a : Addr} {o : Obj} {ys : List (NestedKey × Addr × Value)} {ks : List P} (hH : Rd H a (ExactO a o)) (t : TabO (gx X) a o ys) (e1 : ys.map (·.1) = P.nkL ks) (e2 : P.keyedL ks = true)
    (r : RepL (gx X) H ι ks (ys.map fun y => V.ref y.2.1)) : s.heap.DictOfH (nestedKind X.prog X.w) a ys := by
  have ok : ObjOk X.prog X.w H s.heap a (ExactO a o) := hH.ok I.hok
  have ho : s.heap.get? a = some o := ok.1
  obtain ⟨es, ep, hd, he⟩ := t.dat
  exact ⟨o, es, ep, ho, t.ex, hd, he, fun y hy => ⟨tab_keys I e1 e2 r y hy, t.dep y hy⟩, t.nd⟩
theorem lookT_atKey {k : NestedKey} : ∀ {ys : List (NestedKey × Addr × Value)} {ks : List P} {xs : List P} {vs : List V}, ys.map (·.1) = P.nkL ks → Vals vs (ys.map fun y => y.2.2) → RepL (gx X) H ι xs vs →
    match lookT k ks xs with
    | some x => ∃ p v, atKey ys k = some p ∧ RelV v p.2 ∧ Rep (gx X) H ι x v
    | none => atKey ys k = none
  | [], [], xs, vs, _, _, _ => by simp [lookT, atKey]
  | [], k :: ks, xs, vs, e, _, _ => by rw [P.nkL] at e; cases e
  | y :: ys, [], xs, vs, e, _, _ => by rw [P.nkL] at e; cases e
  | y :: ys, j :: ks, xs, vs, e, q, r => by
    rw [P.nkL, List.map_cons] at e
    injection e with e3 e4
    rw [List.map_cons] at q
    cases q with
    | @cons v _ vt _ q1 q2 =>
      cases xs with
      | nil => simp only [RepL] at r; cases r
      | cons x xs =>
        simp only [RepL] at r
        obtain ⟨v', t, e, h1, h2⟩ := r
        injection e with e5 e6
        subst e5 e6
        unfold lookT
        by_cases hj : j.nk = k
        · rw [if_pos hj]
          exact ⟨y.2, v, by simp [atKey, e3, hj], q1, h1⟩
        · rw [if_neg hj]
          have ih := lookT_atKey (k := k) e4 q2 h2
          have ea : atKey (y :: ys) k = atKey ys k := by simp [atKey, e3, hj]
          rw [ea]
          exact ih
end

/-! ### in -/
section
variable {X : Cx}
theorem xor_f (b : Bool) : xor false b = b := by cases b <;> rfl
theorem xor_t (b : Bool) : xor true b = !b := by cases b <;> rfl
theorem one_sign {c : Str} (h : c.cps.size = 1) : c = ⟨#[c.cps.getD 0 0]⟩ := by
  obtain ⟨⟨l⟩⟩ := c
  cases l with
  | nil => simp at h
  | cons a t =>
    cases t with
    | nil => rfl
    | cons b t => simp at h
theorem keyD_of {as : List P} (h : (P.tup as).keyD = true) : (P.tup as).keyed = true ∧ (P.tup as).nk.depth ≤ 8 := by
  unfold P.keyD at h
  rw [Bool.and_eq_true] at h
  exact ⟨h.1, of_decide_eq_true h.2⟩
theorem rn_tabD {G : Gx} {H : Hp} {ι : Io} {ks xs : List P} {x : V} (h : Rn G H ι (.dT ks xs) x) : ∃ a o ys vs, x = .ref a ∧ Rd H a (ExactO a o) ∧ TabO G a o ys ∧ ys.map (·.1) = P.nkL ks ∧ P.keyedL ks = true ∧ RepL G H ι ks (ys.map fun y => V.ref y.2.1) ∧ Vals vs (ys.map fun y => y.2.2) ∧ RepL G H ι xs vs := h
theorem rn_dK {G : Gx} {H : Hp} {ι : Io} {ks : List Key} {xs : List P} {x : V} (h : Rn G H ι (.dK ks xs) x) : ∃ a vs, x = .ref a ∧ Rd H a (.dK (ks.zip vs)) ∧ ks.length = xs.length ∧ RepL G H ι xs vs := h
theorem o_inG (hu : X.A.units + 110 < cLine) (neg : Bool) : OpR X (compareOp (if neg then .NotIn else .In)) (rP2 X (pIn neg)) := by
  intro pins s σ H x y v u Q I rx ry h
  obtain ⟨ι, a, b, z, ra, rb, g, fr, q⟩ := h
  unfold pIn at g
  split at g
  · -- a text
    split at g
    · rename_i z' _ c
      split at g
      · rename_i hc
        cases g
        rw [rn_str rb] at ry
        rw [rn_str ra, one_sign hc] at rx
        have e : (⟨#[c.cps.getD 0 0]⟩ : Str).cps.getD 0 0 = c.cps.getD 0 0 := rfl
        cases neg with
        | false =>
          rw [xor_f] at q
          exact op_in_sign pins s σ H _ _ v u Q I rx ry ⟨_, _, rfl, rfl, q _ _ (.refl _) rep_bl⟩
        | true =>
          rw [xor_t] at q
          exact op_notIn_sign pins s σ H _ _ v u Q I rx ry ⟨_, _, rfl, rfl, q _ _ (.refl _) rep_bl⟩
      · cases g
    · cases g
  · -- a tuple
    rename_i ys
    split at g
    · rename_i hc
      cases g
      obtain ⟨as, r1⟩ := ra.reads I (fit_plain hc.1) rx
      have py : (P.tup ys).plain = true := by simpa [P.plain] using hc.2
      obtain ⟨bs, r2⟩ := rb.reads I py ry
      rw [P.py] at r2
      have hd := fit_dep hc.1
      have hm := Nat.min_le_right (PyData.depthAll (P.pyL ys)) a.dep
      have e := any_py a (fit_plain hc.1) ys hc.2
      cases neg with
      | false =>
        rw [xor_f] at q
        refine SeqAt.in_tuple_data r2 r1 (P.plainL_py _ hc.2) (P.plain_py _ (fit_plain hc.1)) (by rw [P.dep_py]; omega) ?_
        rw [e]
        exact ⟨.bl _, H, I, rfl, q _ _ (.refl _) rep_bl⟩
      | true =>
        rw [xor_t] at q
        refine SeqAt.notIn_tuple_data r2 r1 (P.plainL_py _ hc.2) (P.plain_py _ (fit_plain hc.1)) (by rw [P.dep_py]; omega) ?_
        rw [e]
        exact ⟨.bl _, H, I, rfl, q _ _ (.refl _) rep_bl⟩
    · cases g
  · -- a list
    rename_i ys
    split at g
    · rename_i hc
      cases g
      obtain ⟨as, r1⟩ := ra.reads I (fit_plain hc.1) rx
      have py : (P.lst ys).plain = true := by simpa [P.plain] using hc.2
      obtain ⟨bs, r2⟩ := rb.reads I py ry
      rw [P.py] at r2
      have hd := fit_dep hc.1
      have hm := Nat.min_le_right (PyData.depthAll (P.pyL ys)) a.dep
      have e := any_py a (fit_plain hc.1) ys hc.2
      cases neg with
      | false =>
        rw [xor_f] at q
        refine SeqAt.in_list_data r2 r1 (P.plainL_py _ hc.2) (P.plain_py _ (fit_plain hc.1)) (by rw [P.dep_py]; omega) ?_
        rw [e]
        exact ⟨.bl _, H, I, rfl, q _ _ (.refl _) rep_bl⟩
      | true =>
        rw [xor_t] at q
        refine SeqAt.notIn_list_data r2 r1 (P.plainL_py _ hc.2) (P.plain_py _ (fit_plain hc.1)) (by rw [P.dep_py]; omega) ?_
        rw [e]
        exact ⟨.bl _, H, I, rfl, q _ _ (.refl _) rep_bl⟩
    · cases g
  · -- a dict
    rename_i ks xs
    cases hk : a.ky with
    | none => rw [hk] at g; cases g
    | some k =>
      rw [hk] at g
      cases g
      obtain ⟨p, vs, e, t, hl, r⟩ := rn_dK rb
      subst e
      obtain rfl : u = Value.ref p := ry
      have ex := ky_rep hk ra
      subst ex
      have es : (lookK k ks xs).isSome = (valV (ks.zip vs) k).isSome := by
        have lv := lookK_val k ks xs vs r
        cases hq : lookK k ks xs with
        | some y => rw [hq] at lv; obtain ⟨w, e, _⟩ := lv; rw [e]; rfl
        | none => rw [hq] at lv; rw [lv hl]; rfl
      dsimp only at q
      rw [es] at q
      have dg : DGet H p (kV k) (valV (ks.zip vs) k) := .inl ⟨_, k, t, rfl, rfl⟩
      cases neg with
      | false =>
        rw [xor_f] at q
        exact d_in (by omega) I dg rx fun s' I' => ⟨.bl _, H, I', rfl, q _ _ (.refl _) rep_bl⟩
      | true =>
        rw [xor_t] at q
        exact d_notIn (by omega) I dg rx fun s' I' => ⟨.bl _, H, I', rfl, q _ _ (.refl _) rep_bl⟩
  · -- tuples as keys
    rename_i ks xs
    split at g
    · rename_i as
      split at g
      · rename_i hk
        cases g
        obtain ⟨hk1, hk2⟩ := keyD_of hk
        obtain ⟨p, o, ys, vs, e, t, tb, e1, e2, r1, w, r2⟩ := rn_tabD rb
        subst e
        obtain rfl : u = Value.ref p := ry
        have dd := tab_dict I t tb e1 e2 r1
        have ra' : Rep (gx X) H ι (.tup as) x := ra
        have hkey := Rep.key I _ _ _ hk1 ra' rx
        obtain ⟨b, ws, eb, _, _⟩ := rn_tup ra
        subst eb
        obtain rfl : v = Value.ref b := rx
        have es : (lookT (P.tup as).nk ks xs).isSome = (valueAt (pairsH ys) (P.tup as).nk).isSome := by
          have lv := lookT_atKey (X := X) (H := H) (ι := ι) (k := (P.tup as).nk) e1 w r2
          rw [valueAt_pairsH, Option.isSome_map]
          cases hq : lookT (P.tup as).nk ks xs with
          | some y => rw [hq] at lv; obtain ⟨p, v, e, _⟩ := lv; rw [e]; rfl
          | none => rw [hq] at lv; rw [lv]; rfl
        rw [es] at q
        have hr : (nestedKind X.prog X.w).room X.A.in1 := by show X.A.units + 1 + 8 < cLine; omega
        cases neg with
        | false =>
          rw [xor_f] at q
          exact in_keyed hr ⟨hkey, hk2⟩ tb.sys ⟨ys, dd, rfl⟩ ⟨.bl _, H, I.tok _, rfl, q _ _ (.refl _) rep_bl⟩
        | true =>
          rw [xor_t] at q
          exact notIn_keyed hr ⟨hkey, hk2⟩ tb.sys ⟨ys, dd, rfl⟩ ⟨.bl _, H, I.tok _, rfl, q _ _ (.refl _) rep_bl⟩
      · cases g
    · cases g
  · cases g
theorem o_in (hu : X.A.units + 110 < cLine) : OpR X (compareOp .In) (rP2 X (pIn false)) := o_inG hu false
theorem o_notIn (hu : X.A.units + 110 < cLine) : OpR X (compareOp .NotIn) (rP2 X (pIn true)) := o_inG hu true
end

/-! ### a[i] -/
def pIx (a b : P) : Option P := match a with
  | .tup xs => (match b with
    | .int i => atI xs i
    | _ => none)
  | .lst xs => (match b with
    | .int i => atI xs i
    | _ => none)
  | .str z => (match b with
    | .int i => if z.length ≤ 16777216 then (atI z.cps.toList i).map fun c => .str ⟨#[c]⟩ else none
    | _ => none)
  | .dK ks xs => b.ky.bind fun k => lookK k ks xs
  | .dT ks xs => (match b with
    | .tup bs => if (P.tup bs).keyD = true then lookT (P.tup bs).nk ks xs else none
    | _ => none)
  | _ => none
theorem atI_rep {G : Gx} {H : Hp} {ι : Io} {xs : List P} {vs : List V} {i : Int} {z : P} (r : RepL G H ι xs vs) (h : atI xs i = some z) : ∃ v, atI vs i = some v ∧ Rep G H ι z v := by
  unfold atI at h ⊢
  rw [r.length] at h
  obtain ⟨j, hj, e⟩ := Option.bind_eq_some_iff.mp h
  obtain ⟨v, ev, rv⟩ := r.get e
  exact ⟨v, by rw [hj]; exact ev, rv⟩
section
variable {X : Cx}
/-- a subscript of a dict by values -/
theorem ix_of {T id : String} {value slice : Expr} {pins : List (Addr × Obj)} {s : Shared} {σ : L2.St} {Q : VK} {v u : Value} (hl : typeLookup (.type T) "__getitem__" = pure (some (.builtin id))) (hT : s.TypeIs v T)
    (hs : subscripted slice false v u = operate [v, u] (getItem v u)) (h : wpAny (model X.prog X.w) X.A (getItem v u) (EP X pins σ Q) X.xe s) : wpAny (model X.prog X.w) X.A (subscriptTail value slice v u) (EP X pins σ Q) X.xe s := by
  unfold subscriptTail
  refine wpAny_bind ?_
  rw [getitemInPython_of_ne hT.not_modules]
  refine wpAny_bind (wpAny_specialOf hT hl ?_)
  have last : wpAny (model X.prog X.w) X.A (subscripted slice false v u) (fun r s3 => wpAny (model X.prog X.w) X.A (letTemporaryGo value v r >>= fun _ => pure r) (EP X pins σ Q) X.xe s3) X.xe s := by
    rw [hs]
    exact wpAny_operating (thn h fun r s3 h3 => wpAny_bind (wpAny_letTemporaryGo (wpAny_pure h3)))
  first
    | exact wpAny_pure (wpAny_bind last)
    | exact wpAny_bind (wpAny_pure (wpAny_bind last))
    | exact wpAny_bind last
theorem ix_all (hu : X.A.units + 110 < cLine) : IxR X (rP2 X pIx) := by
  intro value slice pins s σ H x y v u Q I rx ry h hs
  obtain ⟨ι, a, b, z, ra, rb, g, fr, q⟩ := h
  unfold pIx at g
  split at g
  · rename_i xs
    split at g
    · rename_i i
      obtain ⟨p, vs, e, t, r⟩ := rn_tup ra
      obtain ⟨w, hw, rw'⟩ := atI_rep r g
      exact ix_tup value slice pins s σ H x y v u Q I rx ry ⟨p, vs, i, w, e, rn_int rb, t.sq, hw, q _ _ (.refl _) rw'⟩ hs
    · cases g
  · rename_i xs
    split at g
    · rename_i i
      obtain ⟨p, vs, e, t, r⟩ := rn_lst ra
      obtain ⟨w, hw, rw'⟩ := atI_rep r g
      exact ix_list value slice pins s σ H x y v u Q I rx ry ⟨p, vs, i, w, e, rn_int rb, .inl t, hw, q _ _ (.refl _) rw'⟩ hs
    · cases g
  · rename_i z'
    split at g
    · rename_i i
      split at g
      · rename_i hz
        obtain ⟨c, hc, e⟩ := Option.map_eq_some_iff.mp g
        subst e
        exact ix_str value slice pins s σ H x y v u Q I rx ry ⟨z', i, c, rn_str ra, rn_int rb, by rw [sizeLine_eq]; exact hz, hc, q _ _ (.refl _) rep_str⟩ hs
      · cases g
    · cases g
  · rename_i ks xs
    obtain ⟨k, hk, g2⟩ := Option.bind_eq_some_iff.mp g
    obtain ⟨p, vs, e, t, hl, r⟩ := rn_dK ra
    subst e
    obtain rfl : v = Value.ref p := rx
    have ey := ky_rep hk rb
    subst ey
    have lv := lookK_val k ks xs vs r
    rw [g2] at lv
    obtain ⟨w, ew, rw'⟩ := lv
    have dg : DGet H p (kV k) (some w) := .inl ⟨_, k, t, rfl, ew.symm⟩
    exact ix_of PySem.F.slot_dict_getitem.lookup (dict_typeIs I dg) hs (d_getItem (by omega) I dg ry fun w' s' I' r' => ⟨w, H, I', r', q _ _ (.refl _) rw'⟩)
  · rename_i ks xs
    split at g
    · rename_i bs
      split at g
      · rename_i hk
        obtain ⟨hk1, hk2⟩ := keyD_of hk
        obtain ⟨p, o, ys, vs, e, t, tb, e1, e2, r1, w, r2⟩ := rn_tabD ra
        subst e
        obtain rfl : v = Value.ref p := rx
        have dd := tab_dict I t tb e1 e2 r1
        have hkey := Rep.key I _ _ _ hk1 (show Rep (gx X) H ι (.tup bs) y from rb) ry
        obtain ⟨c, ws, eb, _, _⟩ := rn_tup rb
        subst eb
        obtain rfl : u = Value.ref c := ry
        have lv := lookT_atKey (X := X) (H := H) (ι := ι) (k := (P.tup bs).nk) e1 w r2
        rw [g] at lv
        obtain ⟨pp, vv, ea, rel, rz⟩ := lv
        have hr : (nestedKind X.prog X.w).room X.A.in1 := by show X.A.units + 1 + 8 < cLine; omega
        refine ix_of PySem.F.slot_dict_getitem.lookup dd.typeIs hs ?_
        exact wpAny_getItem_heap hr ⟨hkey, hk2⟩ dd ea ⟨vv, H, I.tok _, rel, q _ _ (.refl _) rz⟩
      · cases g
    · cases g
  · cases g
variable {W : WX} {a b : Expr} {fa fb : FE} {pos : Pos}
theorem de_ix (hu : X.A.units + 110 < cLine) (ha : DE X W a fa) (hb : DE X W b fb) (hs : PlainIx b := by intro _ _; rfl) : DE X W (.Subscript a b pos) (sOp pIx fa fb) :=
  (pe_ix (ix_all hu) ha hb hs).conv fun σ H Q ⟨δ, m, ι, S, M, h⟩ =>
    ⟨δ, m, ι, S, M, h.seq fun d m1 v H1 ι1 _ s1 M1 r1 h1 => ⟨δ, m1, ι1, S.step s1, M1, h1.seq fun e m2 u H2 ι2 _ s2 M2 r2 h2 => ERP.op2 M2 (r1.step s2) r2 h2⟩⟩
end

/-! ### a[i:j] -/
/-- an end of a slice -/
abbrev FO := DS → Mem → ER (Option Int)
def cut {α : Type} (xs : List α) (lo hi : Option Int) : List α := (xs.drop (HT.sIx xs.length 0 lo)).take (HT.sIx xs.length xs.length hi - HT.sIx xs.length 0 lo)
def pSl (a : P) (lo hi : Option Int) : Option P := match a with
  | .tup xs => some (.tup (cut xs lo hi))
  | .lst xs => some (.lst (cut xs lo hi))
  | _ => none
theorem cut_rep {G : Gx} {H : Hp} {ι : Io} {xs : List P} {vs : List V} (r : RepL G H ι xs vs) (lo hi : Option Int) : RepL G H ι (cut xs lo hi) (cutV vs lo hi) := by
  unfold cut cutV
  rw [r.length]
  exact (r.drop _).take _
theorem cut_all {α : Type} {xs : List α} {lo hi : Option Int} (h : HT.sIx xs.length 0 lo = 0 ∧ HT.sIx xs.length xs.length hi = xs.length) : cut xs lo hi = xs := by
  unfold cut
  rw [h.1, h.2]
  simp
def rSl (X : Cx) : V → Option Int → Option Int → Hp → VK → Prop := fun x lo hi H Q => ∃ ι a z, Rn (gx X) H ι a x ∧ pSl a lo hi = some z ∧ (∀ p, H p = none → ι.fre p) ∧ ∀ v H', Same H H' → Rep (gx X) H' ι z v → Q v H'
def sNoPart : FO := fun _ m => .ok none m
def sPart (fa : FE) : FO := fun δ m => (fa δ m).bind fun d m => match d with
  | .p (.int i) => .ok (some i) m
  | _ => .bad
def tDO (X : Cx) (W : WX) (f : FO) : TO := fun σ H Q => ∃ δ m ι, SRel (gx X) H ι σ δ ∧ MRel (gx X) H ι m ∧ ERP (gx X) W σ ι H (fun _ _ (a : Option Int) b => a = b) (f δ m) Q
abbrev DO (X : Cx) (W : WX) (e : Option Expr) (f : FO) : Prop := PO X e (tDO X W f)
theorem _root_.L2.PO.conv {X : Cx} {e : Option Expr} {t t' : TO} (h : PO X e t) (k : ∀ σ H Q, t' σ H Q → t σ H Q) : PO X e t' := ⟨fun pins s σ H Q I q => h.run pins s σ H Q I (k σ H Q q)⟩
section
variable {X : Cx} {W : WX} {a e : Expr} {lo hi : Option Expr} {fa : FE} {fl fh : FO} {pos p2 : Pos}
theorem do_none : DO X W none sNoPart := po_none.conv fun σ H Q ⟨δ, m, ι, S, M, h⟩ => h none H ι (.refl _ _) M rfl
theorem do_some (ha : DE X W e fa) : DO X W (some e) (sPart fa) := (po_some ha).conv fun σ H Q ⟨δ, m, ι, S, M, h⟩ =>
  ⟨δ, m, ι, S, M, h.seq fun d m1 v H1 ι1 q1 s1 M1 r1 h1 => by
    clear q1
    split at h1
    · rename_i i
      simp only [RepD, Rep] at r1
      exact ⟨i, r1, h1 _ H1 ι1 (.refl _ _) M1 rfl⟩
    · exact h1.elim⟩
theorem sl_all : SlR X (rSl X) := by
  intro pins s σ H x v vl vu lo hi sl Q I rx hs pl pu h
  obtain ⟨ι, a, z, ra, g, fr, q⟩ := h
  unfold pSl at g
  split at g
  · rename_i xs
    cases g
    obtain ⟨p, vs, e, t, r⟩ := rn_tup ra
    subst e
    cases rx
    obtain ⟨its, w1, p1, hz⟩ := I.tuple t.sq
    have hlen : its.toArray.size = vs.length := by rw [List.size_toArray]; exact w1.length.symm
    refine ⟨"tuple", _, PyProof.Rows.slot_tuple_getitem.lookup, p1.typeIs, ?_⟩
    by_cases hw : HT.sIx vs.length 0 lo = 0 ∧ HT.sIx vs.length vs.length hi = vs.length
    · have e2 : cut xs lo hi = xs := cut_all (by rw [r.length]; exact hw)
      rw [e2] at q
      exact getItem_tuple_whole p1 hs pl pu (by rw [hlen]; exact hw) ⟨.ref p, H, I, rfl, q _ _ (.refl _) (rep_tup0 t r)⟩
    · refine HT.getItem_tuple_cut p1 hs pl pu (by rw [hlen]; exact hw) ?_ (by rw [hlen]; exact hz)
      rw [hlen]
      exact tup_fin (t' := s.toks) I ((w1.drop (HT.sIx vs.length 0 lo)).take (HT.sIx vs.length vs.length hi - HT.sIx vs.length 0 lo)) (Nat.le_trans (cutV_length vs lo hi) hz) (q _ _ (Same.upd I.fresh) (rep_tup rfl I.fresh (fr _ I.fresh) (cut_rep r lo hi)))
  · rename_i xs
    cases g
    obtain ⟨p, vs, e, t, r⟩ := rn_lst ra
    exact sl_list pins s σ H x v vl vu lo hi sl Q I rx hs pl pu ⟨p, vs, e, .inl t, fun n hn => q _ _ (Same.upd hn) (rep_lst hn (fr n hn) (cut_rep r lo hi))⟩
  · cases g
def sSl (fa : FE) (fl fh : FO) : FE := fun δ m => (fa δ m).bind fun d m => (fl δ m).bind fun lo m => (fh δ m).bind fun hi m => op1 (fun a => pSl a lo hi) d m
theorem de_sl (ha : DE X W e fa) (hl : DO X W lo fl) (hh : DO X W hi fh) : DE X W (.Subscript e (.Slice lo hi none p2) pos) (sSl fa fl fh) :=
  (pe_slice sl_all ha hl hh).conv fun σ H Q ⟨δ, m, ι, S, M, h⟩ =>
    ⟨δ, m, ι, S, M, h.seq fun d m1 v H1 ι1 _ s1 M1 r1 h1 => ⟨δ, m1, ι1, S.step s1, M1, h1.seq fun l m2 l' H2 ι2 _ s2 M2 r2 h2 => ⟨δ, m2, ι2, S.step (s1.trans s2), M2, h2.seq fun l3 m3 l3' H3 ι3 _ s3 M3 r3 h3 => by
      subst r2 r3
      obtain ⟨ι, a, z, c1, c2, c3, c4⟩ := ERP.op1 (g := fun a => pSl a l l3) M3 (r1.step (s2.trans s3)) h3
      exact ⟨ι, a, z, c1, c2, c3, c4⟩⟩⟩⟩
end
end DL

set_option Elab.async false
set_option linter.all false
set_option maxRecDepth 100000
/-! The data layer, part e: logic, arguments, displays, calls of built-ins. -/
namespace DL
open PySem PySem.Spec PyProof.Rows L2

/-! ### and, or, not, if -/
section
variable {X : Cx} {W : WX} {a b c : Expr} {rest : List Expr} {fa fb : FE} {ga gb : FB} {pos : Pos}
def sAndB (ga gb : FB) : FB := fun δ m => (ga δ m).bind fun c m => if c = true then gb δ m else .ok false m
def sOrB (ga gb : FB) : FB := fun δ m => (ga δ m).bind fun c m => if c = true then .ok true m else gb δ m
def sNotB (ga : FB) : FB := fun δ m => (ga δ m).bind fun c m => .ok (!c) m
theorem dw_and1 (ha : DB X W a ga) : DWB X W (.BoolOp .And [a] pos) ga := pw_and1 ha
theorem dw_or1 (ha : DB X W a ga) : DWB X W (.BoolOp .Or [a] pos) ga := pw_or1 ha
theorem dw_and (ha : DB X W a ga) (hb : DWB X W (.BoolOp .And (b :: rest) pos) gb) : DWB X W (.BoolOp .And (a :: b :: rest) pos) (sAndB ga gb) :=
  (pw_and ha hb).conv fun σ H Q ⟨δ, m, ι, S, M, h⟩ => ⟨δ, m, ι, S, M, h.seq fun c m1 c' H1 ι1 _ s1 M1 r1 h1 => by
    subst r1
    cases c with
    | true => rw [if_pos rfl] at h1; rw [if_pos rfl]; exact ⟨δ, m1, ι1, S.step s1, M1, h1⟩
    | false => rw [if_neg (by decide)] at h1; rw [if_neg (by decide)]; exact h1 _ H1 ι1 (.refl _ _) M1 rfl⟩
theorem dw_or (ha : DB X W a ga) (hb : DWB X W (.BoolOp .Or (b :: rest) pos) gb) : DWB X W (.BoolOp .Or (a :: b :: rest) pos) (sOrB ga gb) :=
  (pw_or ha hb).conv fun σ H Q ⟨δ, m, ι, S, M, h⟩ => ⟨δ, m, ι, S, M, h.seq fun c m1 c' H1 ι1 _ s1 M1 r1 h1 => by
    subst r1
    cases c with
    | false => rw [if_neg (by decide)] at h1; rw [if_neg (by decide)]; exact ⟨δ, m1, ι1, S.step s1, M1, h1⟩
    | true => rw [if_pos rfl] at h1; rw [if_pos rfl]; exact h1 _ H1 ι1 (.refl _ _) M1 rfl⟩
theorem db_w (h : DWB X W a ga) : DB X W a ga := PW.pt h
theorem db_not (ha : DB X W a ga) : DB X W (.UnaryOp .Not a pos) (sNotB ga) :=
  (pt_not ha).conv fun σ H Q ⟨δ, m, ι, S, M, h⟩ => ⟨δ, m, ι, S, M, h.seq fun c m1 c' H1 ι1 _ s1 M1 r1 h1 => by subst r1; exact h1 _ H1 ι1 (.refl _ _) M1 rfl⟩
/-- .. as values, all but the last bools -/
def sAndV (fa fb : FE) : FE := fun δ m => (fa δ m).bind fun d m => (asB d m).bind fun c m => if c = true then fb δ m else .ok (.p (.bl false)) m
def sOrV (fa fb : FE) : FE := fun δ m => (fa δ m).bind fun d m => (asB d m).bind fun c m => if c = true then .ok (.p (.bl true)) m else fb δ m
def sNotV (fa : FE) : FE := fun δ m => (fa δ m).bind fun d m => (asB d m).bind fun c m => .ok (.p (.bl (!c))) m
theorem de_one {op} (h : DE X W a fa) : DE X W (.BoolOp op [a] pos) fa := pe_one h
theorem asB_ok {d : D} {m m1 : Mem} {c : Bool} (h : asB d m = .ok c m1) : d = .p (.bl c) ∧ m1 = m := by
  unfold asB at h
  split at h
  · injection h with h1 h2
    exact ⟨by rw [h1], h2.symm⟩
  · cases h
theorem asB_not {d : D} {m m1 : Mem} {x : P} (h : asB d m = .ex x m1) : False := by
  unfold asB at h
  split at h <;> cases h
/-- behind a bool -/
theorem ERP.bool {G : Gx} {σ : L2.St} {ι : Io} {H : Hp} {γ ε : Type} {rel' : Hp → Io → γ → ε → Prop} {Q : ε → Hp → Prop} {d : D} {m : Mem} {v : V} {g : Bool → Mem → ER γ} (r : RepD G H ι d v)
    (h : ERP G W σ ι H rel' ((asB d m).bind g) Q) : ∃ c, v = .bl c ∧ ERP G W σ ι H rel' (g c m) Q := by
  unfold asB at h
  split at h
  · rename_i c
    simp only [RepD, Rep] at r
    exact ⟨c, r, h⟩
  · exact h.elim
theorem de_and (ha : DE X W a fa) (hb : DE X W (.BoolOp .And (b :: rest) pos) fb) : DE X W (.BoolOp .And (a :: b :: rest) pos) (sAndV fa fb) :=
  (pe_and ha hb).conv fun σ H Q ⟨δ, m, ι, S, M, h⟩ => ⟨δ, m, ι, S, M, h.seq fun d m1 v H1 ι1 _ s1 M1 r1 h1 => by
    obtain ⟨c, e, h2⟩ := h1.bool r1
    refine ⟨c, e, ?_⟩
    cases c with
    | true => rw [if_pos rfl] at h2; rw [if_pos rfl]; exact ⟨δ, m1, ι1, S.step s1, M1, h2⟩
    | false => rw [if_neg (by decide)] at h2; rw [if_neg (by decide)]; exact h2 _ H1 ι1 (.refl _ _) M1 (by simp [RepD, Rep])⟩
theorem de_or (ha : DE X W a fa) (hb : DE X W (.BoolOp .Or (b :: rest) pos) fb) : DE X W (.BoolOp .Or (a :: b :: rest) pos) (sOrV fa fb) :=
  (pe_or ha hb).conv fun σ H Q ⟨δ, m, ι, S, M, h⟩ => ⟨δ, m, ι, S, M, h.seq fun d m1 v H1 ι1 _ s1 M1 r1 h1 => by
    obtain ⟨c, e, h2⟩ := h1.bool r1
    refine ⟨c, e, ?_⟩
    cases c with
    | false => rw [if_neg (by decide)] at h2; rw [if_neg (by decide)]; exact ⟨δ, m1, ι1, S.step s1, M1, h2⟩
    | true => rw [if_pos rfl] at h2; rw [if_pos rfl]; exact h2 _ H1 ι1 (.refl _ _) M1 (by simp [RepD, Rep])⟩
theorem de_not (ha : DE X W a fa) : DE X W (.UnaryOp .Not a pos) (sNotV fa) :=
  (pe_not ha).conv fun σ H Q ⟨δ, m, ι, S, M, h⟩ => ⟨δ, m, ι, S, M, h.seq fun d m1 v H1 ι1 _ s1 M1 r1 h1 => by
    obtain ⟨c, e, h2⟩ := h1.bool r1
    exact ⟨c, e, h2 _ H1 ι1 (.refl _ _) M1 (by simp [RepD, Rep])⟩⟩
def sIfE (g : FB) (fa fb : FE) : FE := fun δ m => (g δ m).bind fun c m => if c = true then fa δ m else fb δ m
theorem de_if (hc : DB X W c ga) (ha : DE X W a fa) (hb : DE X W b fb) : DE X W (.IfExp c a b pos) (sIfE ga fa fb) :=
  (pe_ifExp hc ha hb).conv fun σ H Q ⟨δ, m, ι, S, M, h⟩ => ⟨δ, m, ι, S, M, h.seq fun c m1 c' H1 ι1 _ s1 M1 r1 h1 => by
    subst r1
    cases c with
    | true => rw [if_pos rfl] at h1; rw [if_pos rfl]; exact ⟨δ, m1, ι1, S.step s1, M1, h1⟩
    | false => rw [if_neg (by decide)] at h1; rw [if_neg (by decide)]; exact ⟨δ, m1, ι1, S.step s1, M1, h1⟩⟩
end

/-! ### arguments, displays -/
def sNil : FA := fun _ m => .ok [] m
def sCons (fa : FE) (fr : FA) : FA := fun δ m => (fa δ m).bind fun d m => (fr δ m).bind fun ds m => .ok (d :: ds) m
def allP : List D → Option (List P)
  | [] => some []
  | .p x :: ds => (allP ds).map (x :: ·)
  | _ => none
@[simp] theorem allP_nil : allP [] = some [] := rfl
@[simp] theorem allP_cons (x : P) (ds : List D) : allP (.p x :: ds) = (allP ds).map (x :: ·) := rfl
@[simp] theorem allP_map (xs : List P) : allP (xs.map D.p) = some xs := by
  induction xs with
  | nil => rfl
  | cons x xs ih => rw [List.map_cons, allP_cons, ih]; rfl
theorem allP_rep {G : Gx} {H : Hp} {ι : Io} : ∀ {ds : List D} {xs : List P} {vs : List V}, allP ds = some xs → RepDL G H ι ds vs → RepL G H ι xs vs
  | [], xs, vs, h, r => by
    cases h
    rw [show vs = [] from r]
    exact .nil
  | .p x :: ds, xs, vs, h, r => by
    rw [allP_cons] at h
    obtain ⟨ys, h1, h2⟩ := Option.map_eq_some_iff.mp h
    subst h2
    obtain ⟨v, t, e, r1, r2⟩ := r
    subst e
    exact .cons r1 (allP_rep h1 r2)
  | .ref i :: ds, xs, vs, h, r => by cases h
  | .und :: ds, xs, vs, h, r => by cases h
/-- a value made of the items -/
def mkSeq (f : List P → P) (ds : List D) (m : Mem) : ER D := match allP ds with
  | some xs => if xs.length ≤ 16777216 then .ok (.p (f xs)) m else .bad
  | none => .bad
section
variable {X : Cx} {W : WX} {e : Expr} {es : List Expr} {fa : FE} {fr : FA} {pos : Pos}
theorem da_nil : DA X W [] sNil := pa_nil.conv fun σ H Q ⟨δ, m, ι, S, M, h⟩ => h [] H ι (.refl _ _) M rfl
theorem da_cons (ha : DE X W e fa) (hr : DA X W es fr) (hs : starEach (e :: es) X.env = (false, eval e X.env) :: starEach es X.env := by rfl) : DA X W (e :: es) (sCons fa fr) :=
  (pa_cons ha hr hs).conv fun σ H Q ⟨δ, m, ι, S, M, h⟩ => ⟨δ, m, ι, S, M, h.seq fun d m1 v H1 ι1 _ s1 M1 r1 h1 => ⟨δ, m1, ι1, S.step s1, M1, h1.seq fun ds m2 vs H2 ι2 _ s2 M2 r2 h2 =>
    h2 _ H2 ι2 (.refl _ _) M2 (.cons (r1.step s2) r2)⟩⟩
def sTup (fr : FA) : FE := fun δ m => (fr δ m).bind fun ds m => mkSeq .tup ds m
def sLst (fr : FA) : FE := fun δ m => (fr δ m).bind fun ds m => mkSeq .lst ds m
/-- a new tuple, exactly -/
def tTupX (t : TA) : TE := fun σ H Q => t σ H fun xs H1 => xs.length ≤ sizeLine ∧ ∀ p o, H1 p = none → o.dict = none → Q (.ref p) (upd H1 p (.frz o (.tup xs)))
theorem pe_tupX {t : TA} {x1} (h : PA X es t) : PE X (.Tuple es x1 pos) (tTupX t) := by
  refine ⟨fun pins s σ H Q I hq => ?_⟩
  exact wpAny_Tuple_spliced (thn (h.run pos pins s σ H _ I hq) fun us s1 ⟨xs, H1, J, r, z, q⟩ => ⟨by rw [← r.length]; exact z, tup_fin (t' := s1.toks) J r z (q _ _ J.fresh rfl)⟩)
theorem de_tup {x1} (hr : DA X W es fr) : DE X W (.Tuple es x1 pos) (sTup fr) :=
  (pe_tupX hr).conv fun σ H Q ⟨δ, m, ι, S, M, h⟩ => ⟨δ, m, ι, S, M, h.seq fun ds m1 vs H1 ι1 _ s1 M1 r1 h1 => by
    unfold mkSeq at h1
    cases e : allP ds with
    | none => rw [e] at h1; exact h1.elim
    | some xs =>
      rw [e] at h1
      have r := allP_rep e r1
      dsimp only at h1
      split at h1
      · rename_i hl
        refine ⟨by rw [sizeLine_eq, ← r.length]; exact hl, fun p o hp hd => ?_⟩
        exact ERP.fin M1 h1 _ _ (Same.upd hp) (rep_tup hd hp (M1.fresh hp) r)
      · exact h1.elim⟩
theorem de_lst (hr : DA X W es fr) : DE X W (.List es pos) (sLst fr) :=
  (pe_lst hr).conv fun σ H Q ⟨δ, m, ι, S, M, h⟩ => ⟨δ, m, ι, S, M, h.seq fun ds m1 vs H1 ι1 _ s1 M1 r1 h1 => by
    unfold mkSeq at h1
    cases e : allP ds with
    | none => rw [e] at h1; exact h1.elim
    | some xs =>
      rw [e] at h1
      have r := allP_rep e r1
      dsimp only at h1
      split at h1
      · rename_i hl
        refine ⟨by rw [sizeLine_eq, ← r.length]; exact hl, fun p hp => ?_⟩
        exact ERP.fin M1 h1 _ _ (Same.upd hp) (rep_lst hp (M1.fresh hp) r)
      · exact h1.elim⟩
end

/-! ### new writable objects -/
def Io.add (ι : Io) (p : Addr) : Io := ⟨ι.at_ ++ [some p], ι.hid⟩
theorem add_at {ι : Io} {p a : Addr} {k : Nat} (e : (ι.add p).at_[k]? = some (some a)) : (k < ι.at_.length ∧ ι.at_[k]? = some (some a)) ∨ (k = ι.at_.length ∧ a = p) := by
  unfold Io.add at e
  by_cases hk : k < ι.at_.length
  · rw [List.getElem?_append_left hk] at e; exact .inl ⟨hk, e⟩
  · rw [List.getElem?_append_right (by omega)] at e
    have z : k - ι.at_.length = 0 := by
      cases q : k - ι.at_.length with
      | zero => rfl
      | succ n => rw [q] at e; simp at e
    rw [z] at e
    simp at e
    exact .inr ⟨by omega, e.symm⟩
theorem Step.alloc {ι : Io} {H : Hp} {p : Addr} {u : HO} (h : H p = none) : Step ι H (ι.add p) (upd H p u) where
  len := by simp [Io.add]
  pre := fun i o e l => by
    unfold Io.add at e
    rw [List.getElem?_append_left l] at e
    exact .inl e
  keep := fun b o e _ _ => by rw [upd_ne (ne_of_none e h)]; exact e
  new := fun b e n => by
    rcases List.mem_append.mp e with e | e
    · exact absurd e n
    · have z : b = p := by simpa using e
      rw [z]; exact h
  tbl := fun b ps e => ⟨#[], by rw [upd_ne (ne_of_none e h), e]; simp⟩
  hid := rfl
theorem MRel.alloc {G : Gx} {ι : Io} {H : Hp} {m : Mem} {p : Addr} {u : HO} {o : MO} (M : MRel G H ι m) (h : H p = none) (ho : MObj G (upd H p u) (ι.add p) p o) : MRel G (upd H p u) (ι.add p) (m ++ [some o]) where
  len := by simp [Io.add, M.len]
  inj := fun i j a e1 e2 => by
    have fr := (M.fresh h).1
    rcases add_at e1 with ⟨h1, q1⟩ | ⟨h1, q1⟩
    · rcases add_at e2 with ⟨h2, q2⟩ | ⟨h2, q2⟩
      · exact M.inj i j a q1 q2
      · rw [q2] at q1; exact absurd (List.mem_of_getElem? q1) fr
    · rcases add_at e2 with ⟨h2, q2⟩ | ⟨h2, q2⟩
      · rw [q1] at q2; exact absurd (List.mem_of_getElem? q2) fr
      · omega
  obj := fun i a e => by
    rcases add_at e with ⟨hi, e⟩ | ⟨hi, e⟩
    · obtain ⟨o', q, ob⟩ := M.obj i a e
      obtain ⟨w, hw⟩ := ob.some_
      exact ⟨o', by rw [List.getElem?_append_left (by rw [← M.len]; exact hi)]; exact q, ob.to (.alloc h) (upd_ne (ne_of_none hw h))⟩
    · subst e
      have hz : i = m.length := by have := M.len; omega
      exact ⟨o, by rw [hz]; simp, ho⟩
  gon := fun i e => by
    by_cases hi : i < ι.at_.length
    · unfold Io.add at e
      rw [List.getElem?_append_left hi] at e
      rw [List.getElem?_append_left (by rw [← M.len]; exact hi)]
      exact M.gon i e
    · unfold Io.add at e
      rw [List.getElem?_append_right (by omega)] at e
      have z : i - ι.at_.length = 0 := by
        cases q : i - ι.at_.length with
        | zero => rfl
        | succ n => rw [q] at e; simp at e
      rw [z] at e
      simp at e
  hid := fun a e => by
    obtain ⟨⟨u, hu⟩, n⟩ := M.hid a e
    refine ⟨⟨u, by rw [upd_ne (ne_of_none hu h)]; exact hu⟩, fun z => ?_⟩
    rcases List.mem_append.mp z with z | z
    · exact n z
    · have z : a = p := by simpa using z
      rw [z, h] at hu; cases hu
section
variable {X : Cx} {W : WX} {e : Expr} {es : List Expr} {fa : FE} {fr : FA} {pos : Pos} {σ : L2.St} {ι : Io} {H : Hp} {m : Mem} {Q : VK}
theorem ERP.alloc {o : MO} {p : Addr} {u : HO} (M : MRel (gx X) H ι m) (hp : H p = none) (ho : MObj (gx X) (upd H p u) (ι.add p) p o)
    (h : ERP (gx X) W σ ι H (fun H ι => RepD (gx X) H ι) (.ok (.ref m.length) (m ++ [some o])) Q) : Q (.ref p) (upd H p u) :=
  h _ _ _ (.alloc hp) (M.alloc hp ho) ⟨p, rfl, .inl (by rw [← M.len]; simp [Io.add])⟩
/-- a list that will be written to -/
def mkLst (ds : List D) (m : Mem) : ER D := match allP ds with
  | some xs => if xs.length ≤ 16777216 then .ok (.ref m.length) (m ++ [some (.lst xs)]) else .bad
  | none => .bad
def sLstM (fr : FA) : FE := fun δ m => (fr δ m).bind fun ds m => mkLst ds m
theorem de_lstM (hr : DA X W es fr) : DE X W (.List es pos) (sLstM fr) :=
  (pe_lst hr).conv fun σ H Q ⟨δ, m, ι, S, M, h⟩ => ⟨δ, m, ι, S, M, h.seq fun ds m1 vs H1 ι1 _ s1 M1 r1 h1 => by
    unfold mkLst at h1
    cases e : allP ds with
    | none => rw [e] at h1; exact h1.elim
    | some xs =>
      rw [e] at h1
      have r := allP_rep e r1
      dsimp only at h1
      split at h1
      · rename_i hl
        refine ⟨by rw [sizeLine_eq, ← r.length]; exact hl, fun p hp => ?_⟩
        exact ERP.alloc (o := .lst xs) M1 hp ⟨vs, upd_same, RepL.step (.alloc hp) _ _ r⟩ h1
      · exact h1.elim⟩
def sDictK : FE := fun _ m => .ok (.ref m.length) (m ++ [some (.dK [] [])])
theorem de_dictK : DE X W (.Dict [] [] pos) sDictK := pe_dnewK.conv fun σ H Q ⟨δ, m, ι, S, M, h⟩ p hp =>
  ERP.alloc (o := .dK [] []) M hp ⟨[], upd_same, rfl, .nil⟩ h
end

/-! ### another word for an object of ours -/
/-- an object that may be told otherwise -/
def Turns : HO → Prop
  | .lst _ => True
  | .dK _ => True
  | .dT _ => True
  | .ext _ => True
  | .ins _ _ _ => True
  | _ => False
theorem _root_.L2.Inv.turnTo {X : Cx} {pins : List (Addr × Obj)} {σ : L2.St} {H : Hp} {s : Shared} {a : Addr} {u u' : HO} (I : Inv X pins σ H s) (ha : H a = some u) (tu : Turns u) (ok : ObjOk X.prog X.w (upd H a u') s.heap a u') : Inv X pins σ (upd H a u') s := by
  have nt : ∀ b xs, H b = some (.tup xs) → b ≠ a := fun b xs e z => by rw [z, ha] at e; cases e; exact tu
  have nf : ∀ b o v, H b = some (.frz o v) → b ≠ a := fun b o v e z => by rw [z, ha] at e; cases e; exact tu
  have nb : ∀ b ps, H b = some (.tbl ps) → b ≠ a := fun b ps e z => by rw [z, ha] at e; cases e; exact tu
  have no : ∀ b y, H b = some (.own y) → b ≠ a := fun b y e z => by rw [z, ha] at e; cases e; exact tu
  have nn : ∀ b, H b = none → b ≠ a := fun b e z => by rw [z, ha] at e; cases e
  have J := I.step (h' := s.heap) (H' := upd H a u') (g' := s.gens) (d' := s.drawn) (t' := s.toks) (ch := []) (fun b hb => nomatch hb) (fun b o _ _ _ e _ => e) (fun b o _ _ _ e _ => ⟨o.slots, e⟩) (fun b o _ e n => by rw [upd_ne (nn b n)]; exact n)
    (fun b o _ e => ⟨o, e⟩) (fun b xs e => by rw [upd_ne (nt b xs e)]; exact e) (fun b o v e => by rw [upd_ne (nf b o v e)]; exact e) (fun b ps e => ⟨#[], by rw [upd_ne (nb b ps e), e]; simp⟩) (fun m hm => hm)
    (fun b v e => by
      by_cases hb : b = a
      · subst hb; rw [upd_same] at e; cases e; exact ok
      · rw [upd_ne hb] at e
        exact (I.hok b v e).stay (fun c w _ q => q) (fun c q => by rw [upd_ne (no c b q)]; exact q) fun c xs q => by rw [upd_ne (nt c xs q)]; exact q) I.bare
  exact J
theorem there_of {P : Program} {w : World} {H : Hp} {h : Heap} {a : Addr} {u : HO} (tu : Turns u) (x : ObjOk P w H h a u) : ∃ o, h.get? a = some o := by
  cases u with
  | lst xs => obtain ⟨_, _, _, _, e⟩ := x; exact ⟨_, e⟩
  | dK kvs => obtain ⟨_, _, _, _, o, _, _, e, _⟩ := x; exact ⟨_, e⟩
  | dT kvs => obtain ⟨_, _, _, _, o, _, _, e, _⟩ := x; exact ⟨_, e⟩
  | ins C dx fs => obtain ⟨_, _, _, e, _⟩ := x; exact ⟨_, e⟩
  | ext f => exact x.2.1
  | _ => exact tu.elim
/-- the object's exact form is known from now on, and nobody writes to it -/
theorem _root_.L2.Inv.freeze {X : Cx} {pins : List (Addr × Obj)} {σ : L2.St} {H : Hp} {s : Shared} {a : Addr} {u : HO} (I : Inv X pins σ H s) (ha : H a = some u) (tu : Turns u) : ∃ o, s.heap.get? a = some o ∧ Inv X pins σ (upd H a (.frz o u)) s := by
  have ok : ObjOk X.prog X.w H s.heap a u := I.hok a u ha
  obtain ⟨o, ho⟩ := there_of tu ok
  refine ⟨o, ho, I.turnTo ha tu ⟨ho, ok.stay (fun _ _ _ q => q) (fun b q => ?_) fun b xs q => ?_⟩⟩
  · rw [upd_ne (fun z => by rw [z, ha] at q; cases q; exact tu)]; exact q
  · rw [upd_ne (fun z => by rw [z, ha] at q; cases q; exact tu)]; exact q
end DL

set_option Elab.async false
set_option linter.all false
set_option maxRecDepth 100000
/-! The data layer, part f: freezing, dicts written, calls of built-ins. -/
namespace DL
open PySem PySem.Spec PyProof.Rows L2

/-! ### freezing -/
def tFz (t : TE) : TE := fun σ H Q => t σ H fun v H1 => Q v H1 ∨ ∃ a u, v = .ref a ∧ H1 a = some u ∧ Turns u ∧ ∀ o, (∀ o', u = ExactO a o' → o = o') → Q v (upd H1 a (.frz o u))
theorem pe_fz {X : Cx} {e : Expr} {t : TE} (h : PE X e t) : PE X e (tFz t) := ⟨fun pins s σ H Q I q => thn (h.run pins s σ H _ I q) fun u s1 ⟨v, H1, I1, r1, q1⟩ => by
  rcases q1 with q1 | ⟨a, ho, ev, ea, tu, q1⟩
  · exact ⟨v, H1, I1, r1, q1⟩
  · obtain ⟨o, ho', I2⟩ := I1.freeze ea tu
    refine ⟨v, _, I2, r1, q1 o fun o' z => ?_⟩
    have ok : ObjOk X.prog X.w H1 s1.heap a ho := I1.hok a _ ea
    subst z
    exact Option.some.inj (ho'.symm.trans ok.1)⟩
def Io.del (ι : Io) (i : Nat) : Io := ⟨ι.at_.set i none, ι.hid⟩
def fzO : Option (Option MO) → Option P
  | some (some (.lst xs)) => some (.lst xs)
  | some (some (.dK ks xs)) => some (.dK ks xs)
  | some (some (.dT ks xs)) => some (.dT ks xs)
  | _ => none
/-- the object is a value from now on -/
def fzD (d : D) (m : Mem) : ER D := match d with
  | .p x => .ok (.p x) m
  | .ref i => (match fzO m[i]? with
    | some x => .ok (.p x) (m.set i none)
    | none => .bad)
  | .und => .bad
section
variable {G : Gx} {ι : Io} {H : Hp} {m : Mem} {i : Nat} {a : Addr} {u : HO} {o : Obj}
theorem del_at {j : Nat} {b : Addr} (e : (ι.del i).at_[j]? = some (some b)) : i ≠ j ∧ ι.at_[j]? = some (some b) := by
  unfold Io.del at e
  by_cases z : i = j
  · subst z
    have l := (List.getElem?_eq_some_iff.mp e).1
    rw [List.getElem?_set_self (by simpa using l)] at e
    cases e
  · rw [List.getElem?_set_ne z] at e
    exact ⟨z, e⟩
theorem Step.fz (h : H a = some u) (tu : Turns u) (hi : ι.at_[i]? = some (some a)) : Step ι H (ι.del i) (upd H a (.frz o u)) where
  len := by simp [Io.del]
  pre := fun j q e l => by
    unfold Io.del at e
    by_cases hj : i = j
    · subst hj
      rw [List.getElem?_set_self l] at e
      cases e
      exact .inr rfl
    · rw [List.getElem?_set_ne hj] at e; exact .inl e
  keep := fun b q e n _ => by rw [upd_ne (fun z => n (by rw [z]; exact List.mem_of_getElem? hi))]; exact e
  new := fun b e n => by
    obtain ⟨j, hj, q⟩ := List.mem_iff_getElem.mp e
    have q' := del_at (show (ι.del i).at_[j]? = some (some b) by rw [List.getElem?_eq_getElem hj, q])
    exact absurd (List.mem_of_getElem? q'.2) n
  tbl := fun b ps e => ⟨#[], by rw [upd_ne (fun z => by rw [z, h] at e; cases e; exact tu), e]; simp⟩
  hid := rfl
theorem MRel.fz (M : MRel G H ι m) (h : H a = some u) (tu : Turns u) (hi : ι.at_[i]? = some (some a)) : MRel G (upd H a (.frz o u)) (ι.del i) (m.set i none) where
  len := by simp [Io.del, M.len]
  inj := fun j k b e1 e2 => M.inj j k b (del_at e1).2 (del_at e2).2
  obj := fun j b e => by
    obtain ⟨z, e⟩ := del_at e
    obtain ⟨o', q, ob⟩ := M.obj j b e
    exact ⟨o', by rw [List.getElem?_set_ne z]; exact q, ob.to (.fz h tu hi) (upd_ne fun w => z (M.inj i j a hi (by rw [← w]; exact e)))⟩
  gon := fun j e => by
    by_cases z : i = j
    · subst z
      have l : i < m.length := by rw [← M.len]; exact (List.getElem?_eq_some_iff.mp hi).1
      rw [List.getElem?_set_self l]
    · unfold Io.del at e
      rw [List.getElem?_set_ne z] at e
      rw [List.getElem?_set_ne z]
      exact M.gon j e
  hid := fun b e => by
    obtain ⟨⟨v, hv⟩, n⟩ := M.hid b e
    have hb : b ≠ a := fun z => n (by rw [z]; exact List.mem_of_getElem? hi)
    refine ⟨⟨v, by rw [upd_ne hb]; exact hv⟩, fun z => ?_⟩
    obtain ⟨j, hj, q⟩ := List.mem_iff_getElem.mp z
    have q' := del_at (show (ι.del i).at_[j]? = some (some b) by rw [List.getElem?_eq_getElem hj, q])
    exact n (List.mem_of_getElem? q'.2)
theorem MRel.notIn (M : MRel G H ι m) (hi : ι.at_[i]? = some (some a)) : (ι.del i).fre a := by
  refine ⟨fun e => ?_, fun e => ?_⟩
  · obtain ⟨j, hj, q⟩ := List.mem_iff_getElem.mp e
    obtain ⟨z, q'⟩ := del_at (show (ι.del i).at_[j]? = some (some a) by rw [List.getElem?_eq_getElem hj, q])
    exact z (M.inj i j a hi q')
  · exact (M.hid a e).2 (List.mem_of_getElem? hi)
end
def sFz (fa : FE) : FE := fun δ m => (fa δ m).bind fzD
section
variable {X : Cx} {W : WX} {e : Expr} {fa : FE}
theorem de_fz (ha : DE X W e fa) : DE X W e (sFz fa) := (pe_fz ha).conv fun σ H Q ⟨δ, m, ι, S, M, h⟩ => ⟨δ, m, ι, S, M, h.seq fun d m1 v H1 ι1 q1 s1 M1 r1 h1 => by
  clear q1
  unfold fzD at h1
  cases d with
  | und => exact h1.elim
  | p x => exact .inl (h1 v H1 ι1 (.refl _ _) M1 r1)
  | ref i =>
    dsimp only at h1
    cases q : fzO m1[i]? with
    | none => rw [q] at h1; exact h1.elim
    | some x =>
      rw [q] at h1
      obtain ⟨a, ev, lv⟩ := r1
      cases hm : m1[i]? with
      | none => rw [hm] at q; cases q
      | some oo =>
        rw [hm] at q
        cases oo with
        | none => cases q
        | some o =>
          obtain ⟨hi, ob⟩ := M1.live hm lv
          refine .inr ⟨a, ?_⟩
          cases o with
          | lst xs =>
            cases q
            obtain ⟨vs, hH, r⟩ := ob
            refine ⟨_, ev, hH, trivial, fun o ho => ?_⟩
            have st : Step ι1 H1 (ι1.del i) (upd H1 a (.frz o (.lst vs))) := .fz hH trivial hi
            exact h1 v _ _ st (M1.fz hH trivial hi) (by rw [ev]; simp only [RepD, Rep]; exact ⟨a, vs, rfl, .inr ⟨o, upd_same, M1.notIn hi⟩, RepL.step st _ _ r⟩)
          | dK ks xs =>
            cases q
            obtain ⟨vs, hH, l, r⟩ := ob
            refine ⟨_, ev, hH, trivial, fun o ho => ?_⟩
            have st : Step ι1 H1 (ι1.del i) (upd H1 a (.frz o (.dK (ks.zip vs)))) := .fz hH trivial hi
            exact h1 v _ _ st (M1.fz hH trivial hi) (by rw [ev]; simp only [RepD, Rep]; exact ⟨a, o, vs, rfl, ⟨upd_same, M1.notIn hi⟩, l, RepL.step st _ _ r⟩)
          | dT ks xs =>
            cases q
            obtain ⟨o', ys, vs, hH, t, e1, e2, r1, w, r2⟩ := ob
            refine ⟨_, ev, hH, trivial, fun o ho => ?_⟩
            have st : Step ι1 H1 (ι1.del i) (upd H1 a (.frz o (ExactO a o'))) := .fz hH trivial hi
            obtain rfl := ho _ rfl
            exact h1 v _ _ st (M1.fz hH trivial hi) (by rw [ev]; simp only [RepD, Rep]; exact ⟨a, o, ys, vs, rfl, ⟨upd_same, M1.notIn hi⟩, t, e1, e2, RepL.step st _ _ r1, w, RepL.step st _ _ r2⟩)
          | ins C ns ds => cases q⟩
end
end DL

set_option Elab.async false
set_option linter.all false
set_option maxRecDepth 100000
/-! The data layer, part g: targets, what is walked, loops. -/
namespace DL
open PySem PySem.Spec PyProof.Rows L2

/-! ### targets -/
abbrev FG := D → DS → Option DS
abbrev FGs := List P → DS → Option DS
def gN (i : Nat) : FG := fun d δ => match d with
  | .und => none
  | d => if i < δ.length then some (δ.set i d) else none
def gT (n : Nat) (gs : FGs) : FG := fun d δ => match d with
  | .p (.tup xs) => if xs.length = n then gs xs δ else none
  | _ => none
def gsN : FGs := fun xs δ => if xs = [] then some δ else none
def gsC (g : FG) (gs : FGs) : FGs := fun xs δ => match xs with
  | x :: r => (g (.p x) δ).bind (gs r)
  | [] => none
theorem SRel.set {G : Gx} {H : Hp} {ι : Io} {σ : L2.St} {δ : DS} {d : D} {v : V} (S : SRel G H ι σ δ) (r : RepD G H ι d v) (i : Nat) : SRel G H ι (σ.set i (some v)) (δ.set i d) where
  len := by rw [List.length_set, List.length_set]; exact S.len
  at_ := fun j e h n => by
    by_cases z : i = j
    · subst z
      have l : i < δ.length := by have := (List.getElem?_eq_some_iff.mp h).1; simpa using this
      rw [List.getElem?_set_self l] at h
      cases h
      exact ⟨v, by rw [List.getElem?_set_self (by rw [S.len]; exact l)], r⟩
    · rw [List.getElem?_set_ne z] at h
      obtain ⟨v', h1, h2⟩ := S.at_ j e h n
      exact ⟨v', by rw [List.getElem?_set_ne z]; exact h1, h2⟩
/-- slots outside is stay -/
structure Sto (is : List Nat) (σ σ' : L2.St) : Prop where
  len : σ'.length = σ.length
  out : ∀ j, j ∉ is → σ'[j]? = σ[j]?
theorem Sto.trans {is js : List Nat} {a b c : L2.St} (h : Sto is a b) (k : Sto js b c) : Sto (is ++ js) a c := ⟨k.len.trans h.len, fun j n => (k.out j fun z => n (List.mem_append_right _ z)).trans (h.out j fun z => n (List.mem_append_left _ z))⟩
/-- a tuple target -/
def isTT : Expr → Bool
  | .Tuple _ _ _ => true
  | _ => false
/-- .. may take a tuple that nobody looks at any further -/
def Wk (tt : Bool) (G : Gx) (H : Hp) (ι : Io) (x : P) (v : V) : Prop := Rep G H ι x v ∨ (tt = true ∧ ∃ xs a vs, x = .tup xs ∧ v = .ref a ∧ SqT G.K H a vs ∧ RepL G H ι xs vs)
def WkD (tt : Bool) (G : Gx) (H : Hp) (ι : Io) (d : D) (v : V) : Prop := RepD G H ι d v ∨ ∃ x, d = .p x ∧ Wk tt G H ι x v
theorem WkD.rep {G : Gx} {H : Hp} {ι : Io} {d : D} {v : V} (h : WkD false G H ι d v) : RepD G H ι d v := by
  rcases h with h | ⟨x, e, h | ⟨z, _⟩⟩
  · exact h
  · rw [e]; exact h
  · cases z
def tDG (X : Cx) (tt : Bool) (f : FG) (is : List Nat) : TG := fun v σ H Q => ∃ δ ι d δ', SRel (gx X) H ι σ δ ∧ WkD tt (gx X) H ι d v ∧ f d δ = some δ' ∧ ∀ σ', SRel (gx X) H ι σ' δ' → Sto is σ σ' → Q σ' H
def tDGs (X : Cx) (f : FGs) (is : List Nat) : TGs := fun vs σ H Q => ∃ δ ι xs δ', SRel (gx X) H ι σ δ ∧ RepL (gx X) H ι xs vs ∧ f xs δ = some δ' ∧ ∀ σ', SRel (gx X) H ι σ' δ' → Sto is σ σ' → Q σ' H
abbrev DG (X : Cx) (t : Expr) (f : FG) (is : List Nat) : Prop := PG X t (tDG X (isTT t) f is)
abbrev DGs (X : Cx) (ts : List Expr) (f : FGs) (is : List Nat) : Prop := PGs X ts (tDGs X f is)
theorem _root_.L2.PG.conv {X : Cx} {e : Expr} {t t' : TG} (h : PG X e t) (k : ∀ v σ H Q, t' v σ H Q → t v σ H Q) : PG X e t' := ⟨fun pins s σ H v u Q I r q => h.run pins s σ H v u Q I r (k v σ H Q q)⟩
theorem _root_.L2.PGs.conv {X : Cx} {e : List Expr} {t t' : TGs} (h : PGs X e t) (k : ∀ v σ H Q, t' v σ H Q → t v σ H Q) : PGs X e t' := ⟨fun pins s σ H v u Q I r q => h.run pins s σ H v u Q I r (k v σ H Q q)⟩
section
variable {X : Cx} {pos : Pos} {e : Expr} {es : List Expr} {f : FG} {fs : FGs} {is js : List Nat}
theorem dg_name {i : Nat} {x : Str} (hN : X.N.Nodup) (hi : X.N[i]? = some x := by rfl) (hx : Loc X.env.scope x := by first | exact Or.inl rfl | exact Or.inr rfl) (hf : X.fn x = true ∨ X.env.scope.names.lookup x = some .local := by first | exact .inl rfl | exact .inr rfl | assumption) :
    DG X (.Name x pos) (gN i) [i] := (pg_name hN hi hx hf).conv fun v σ H Q ⟨δ, ι, d, δ', S, r, e, h⟩ => by
  unfold gN at e
  have key : (if i < δ.length then some (δ.set i d) else none) = some δ' := by cases d <;> first | exact e | cases e
  split at key
  · cases key
    exact h _ (S.set (WkD.rep r) i) ⟨by simp, fun j n => by rw [List.getElem?_set_ne (fun z => n (by simp [z]))]⟩
  · cases key
theorem dgs_nil : DGs X [] gsN [] := pgs_nil.conv fun vs σ H Q ⟨δ, ι, xs, δ', S, r, e, h⟩ => by
  unfold gsN at e
  split at e
  · rename_i z
    cases e
    subst z
    simp only [RepL] at r
    exact ⟨r, h σ S ⟨rfl, fun _ _ => rfl⟩⟩
  · cases e
theorem dgs_cons (h1 : DG X e f is) (h2 : DGs X es fs js) (hs : (assignEach (e :: es) X.env).map (·.2) = assign e X.env :: (assignEach es X.env).map (·.2) := by rfl) : DGs X (e :: es) (gsC f fs) (is ++ js) :=
  (pgs_cons h1 h2 hs).conv fun vs σ H Q ⟨δ, ι, xs, δ', S, r, e, h⟩ => by
    cases xs with
    | nil => cases e
    | cons x xs =>
      simp only [RepL] at r
      obtain ⟨v, vr, ev, r1, r2⟩ := r
      obtain ⟨δ1, e1, e2⟩ := Option.bind_eq_some_iff.mp e
      exact ⟨v, vr, ev, δ, ι, .p x, δ1, S, .inl r1, e1, fun σ1 S1 t1 => ⟨δ1, ι, xs, δ', S1, r2, e2, fun σ2 S2 t2 => h σ2 S2 (t1.trans t2)⟩⟩
theorem StT.lenq {K : PySem.W.Frag} {H : Hp} {ι : Io} {a : Addr} {xs : List V} (h : StT K H ι a xs) : SqT K H a xs := h.sq
theorem dg_tup {k n : Nat} (hc : X.calm = true) (h : DGs X es fs is) (hn : (assignEach es X.env).length = n := by rfl) (hst : (assignEach es X.env).findIdx? (·.1) = none := by rfl) : DG X (.Tuple es k pos) (gT n fs) is :=
  (pg_tup hc h hn hst).conv fun v σ H Q ⟨δ, ι, d, δ', S, r, e, h⟩ => by
    unfold gT at e
    split at e
    · rename_i xs
      split at e
      · rename_i hl
        have r' : ∃ a vs, v = .ref a ∧ SqT X.K H a vs ∧ RepL (gx X) H ι xs vs := by
          have one : Rep (gx X) H ι (.tup xs) v → ∃ a vs, v = .ref a ∧ SqT X.K H a vs ∧ RepL (gx X) H ι xs vs := fun r => by
            simp only [Rep] at r
            obtain ⟨a, vs, ev, t, rl⟩ := r
            exact ⟨a, vs, ev, t.sq, rl⟩
          rcases r with r | ⟨x, ex, r | ⟨_, ys, a, vs, ey, ev, t, rl⟩⟩
          · exact one r
          · cases ex; exact one r
          · cases ex; cases ey; exact ⟨a, vs, ev, t, rl⟩
        obtain ⟨a, vs, ev, t, rl⟩ := r'
        exact ⟨a, vs, ev, t, by rw [← rl.length]; exact hl, δ, ι, xs, δ', S, rl, e, h⟩
      · cases e
    · cases e
end

/-! ### what is walked -/
structure Itm where
  items : List P
  ok : Mem → Bool := fun _ => true
abbrev FI := DS → Mem → ER Itm
/-- J walks the items as long as ok -/
def ItR (tt : Bool) (G : Gx) (H0 : Hp) (ι0 : Io) (it : Itm) (J : It) : Prop := ∀ ι H m, Mv ι0 H0 ι H → MRel G H ι m → it.ok m = true →
  (∀ (i : Nat) (x : P), it.items[i]? = some x → J.go i H ∧ ∀ v H', J.yld i H v H' → Same H H' ∧ Wk tt G H' ι x v) ∧ J.stop it.items.length H
def tDI (X : Cx) (W : WX) (tt : Bool) (f : FI) : TI := fun σ H R => ∃ δ m ι, SRel (gx X) H ι σ δ ∧ MRel (gx X) H ι m ∧ ERP (gx X) W σ ι H (fun H ι => ItR tt (gx X) H ι) (f δ m) R
abbrev DI (X : Cx) (W : WX) (tg e : Expr) (f : FI) : Prop := PI X tg e (tDI X W (isTT tg) f)
theorem _root_.L2.PI.conv {X : Cx} {tg e : Expr} {t t' : TI} (h : PI X tg e t) (k : ∀ σ H R, t' σ H R → t σ H R) : PI X tg e t' := ⟨fun pins s σ H R I q => h.run pins s σ H R I (k σ H R q)⟩
theorem Mv.refl (ι : Io) (H : Hp) : Mv ι H ι H := (Step.refl ι H).mv
/-- the keys of the locked dict at d, whatever they are -/
def Itx (d : Addr) (o : Obj) (ws : List V) : It :=
  ⟨fun i H => H d = some (.frz o (ExactO d o)) ∧ i < ws.length, fun i H x H' => H' = H ∧ ws[i]? = some x, fun i H => H d = some (.frz o (ExactO d o)) ∧ ws.length ≤ i⟩
/-- what such a dict holds -/
structure DictZ (d : Addr) (o : Obj) (es : Array DictEntry) (ep : Nat) (ws : List V) : Prop where
  sys : (d == sysModules) = false
  ex : o.ExactDict
  dat : o.data = .dict es ep
  len : es.size = ws.length
  key : ∀ (i : Nat) (w : V), ws[i]? = some w → ∃ en, es[i]? = some en ∧ RelV w en.key
theorem at_frz {X : Cx} {pins : List (Addr × Obj)} {σ : L2.St} {H : Hp} {s : Shared} {d : Addr} {o : Obj} {u : HO} (I : Inv X pins σ H s) (hd : H d = some (.frz o u)) : s.heap.get? d = some o := (show ObjOk X.prog X.w H s.heap d (.frz o u) from I.hok d _ hd).1
theorem turn_z {P : Program} {w : World} {K : PySem.W.Frag} {tg : Expr} {d : Addr} {o : Obj} {es : Array DictEntry} {ep : Nat} {ws : List V} (it : Addr) (Z : DictZ d o es ep ws) : Turn P w K tg (Itx d o ws) [it] it (fun i h => h.IsKeyIter it d i ws.length ep) where
  mem := by simp
  obj := fun i h st b hb => by
    obtain rfl : b = it := by simpa using hb
    obtain ⟨oi, ei, _, dd⟩ := st
    exact ⟨oi, ei, fun v z => by rw [dd] at z; cases z⟩
  keep := fun i h h' st k => st.at fun oi ei => k it (by simp) oi ei
  item := by
    intro X e1 e2 e3 hc i pins s σ H E I hf st ⟨hd, hi⟩
    subst e1 e2 e3
    obtain ⟨g0, g1, _, g3, g4, g5⟩ := hf it (by simp)
    obtain ⟨w, hw⟩ : ∃ w, ws[i]? = some w := ⟨ws[i], List.getElem?_eq_getElem hi⟩
    obtain ⟨en, hen, rw'⟩ := Z.key i w hw
    refine next_key_item st (at_frz I hd) Z.dat Z.len hen fun h1 st1 sb => ?_
    have J : Inv X pins σ H { s with heap := h1 } := I.turned (t' := s.toks) (fun b ob hb eb => (sb.2 b hb).trans eb) g0 g1 g3 g4 g5
    obtain ⟨oi, ei, c1, dd⟩ := id st1
    exact ⟨en.key, rfl, go_of (s := { s with heap := h1 }) ei c1 dd (by decide) ⟨w, H, J, rw', ⟨rfl, hw⟩, st1, fun b hb => (hf b hb).1⟩⟩
  done := by
    intro X e1 e2 e3 hc i pins s σ H E I hf st ⟨hd, hi⟩
    subst e1 e2 e3
    obtain ⟨g0, g1, _, g3, g4, g5⟩ := hf it (by simp)
    exact next_key_end (I.ok.hd hc) st (at_frz I hd) Z.dat Z.len hi fun h1 eb => ⟨rfl, I.turned (t' := s.toks) (fun b ob hb z => eb b ob hb z) g0 g1 g3 g4 g5⟩
  self := fun A i s Q E st h => wpAny_pyIter_keyiter st h
/-- lists, tuples, texts, dicts -/
def iAny (K : PySem.W.Frag) (tl : TE) : TI := fun σ H R => tl σ H fun x H1 => (∃ a, x = .ref a ∧ (∃ xs, SqL K H1 a xs) ∧ R (Itl K a) H1) ∨ (∃ a, x = .ref a ∧ (∃ xs, SqT K H1 a xs) ∧ R (Itt K a) H1) ∨ (∃ z, x = .str z ∧ R (Its z) H1) ∨
  (∃ a o kvs, x = .ref a ∧ H1 a = some (.frz o (.dK kvs)) ∧ R (Itk a o kvs) H1) ∨ ∃ a o es ep ws, x = .ref a ∧ H1 a = some (.frz o (ExactO a o)) ∧ DictZ a o es ep ws ∧ R (Itx a o ws) H1
theorem pi_any {X : Cx} {tg l : Expr} {tl : TE} (hl : PE X l tl) : PI X tg l (iAny X.K tl) := by
  refine ⟨fun pins s σ H R I h => ?_⟩
  refine thn (hl.run pins s σ H _ I h) fun v s1 ⟨x, H1, I1, r1, q1⟩ => ?_
  rcases q1 with ⟨a, e, ⟨xs, hq⟩, q⟩ | ⟨a, e, ⟨xs, hq⟩, q⟩ | ⟨z, e, q⟩ | ⟨a, o, kvs, e, hd, q⟩ | ⟨a, o, es, ep, ws, e, hd, Z, q⟩
  · subst e
    cases r1
    obtain ⟨its, rv, p, hz⟩ := I1.list hq
    refine wpAny_pyIter_list p.isList ?_
    refine ⟨s1.heap.objs.size, [s1.heap.objs.size], _, _, H1, rfl, I1.kept (t' := s1.toks) fun b o e => Heap.get?_push_of_some _ e, turn_list a _, ⟨_, Heap.get?_push_size _ rfl, rfl, rfl⟩, fun b hb => ?_, q⟩
    have e : b = s1.heap.objs.size := by simpa using hb
    subst e
    exact I1.fpOk (Nat.le_refl _) (I1.hok.fresh (Nat.le_refl _))
  · subst e
    cases r1
    obtain ⟨its, rv, p, hz⟩ := I1.tuple hq
    refine wpAny_pyIter_tuple (show s1.heap.IsTuple a its.toArray from p) ?_
    refine ⟨s1.heap.objs.size, [s1.heap.objs.size], _, _, H1, rfl, I1.kept (t' := s1.toks) fun b o e => Heap.get?_push_of_some _ e, turn_tuple a _, ⟨_, Heap.get?_push_size _ rfl, rfl, rfl⟩, fun b hb => ?_, q⟩
    have e : b = s1.heap.objs.size := by simpa using hb
    subst e
    exact I1.fpOk (Nat.le_refl _) (I1.hok.fresh (Nat.le_refl _))
  · subst e
    obtain ⟨t, rfl⟩ := r1
    cases ha : z.cps.all (· < 128)
    · exact wpAny_pyIter_wide ha (pi_one (tk := s1.toks) I1 _ (turn_str _ z t "str_iterator" (.inr rfl)) ⟨_, Heap.get?_push_size _ rfl, rfl, rfl⟩ q)
    · exact wpAny_pyIter_ascii ha (pi_one (tk := s1.toks) I1 _ (turn_str _ z t "str_ascii_iterator" (.inl rfl)) ⟨_, Heap.get?_push_size _ rfl, rfl, rfl⟩ q)
  · subst e
    cases r1
    obtain ⟨z1, z2, z3, es, ep, vs, z4, z5, kv, _⟩ := I1.frzK hd
    exact iter_keys z1 z2 z3 z4 (pi_one (tk := s1.toks) I1 _ (turn_keys _ z4) ⟨_, Heap.get?_push_size _ rfl, rfl, by rw [z5] <;> rfl⟩ q)
  · subst e
    cases r1
    exact iter_keys Z.sys (at_frz I1 hd) Z.ex Z.dat (pi_one (tk := s1.toks) I1 _ (turn_z _ Z) ⟨_, Heap.get?_push_size _ rfl, rfl, by rw [Z.len] <;> rfl⟩ q)
/-- a text's letters -/
def letters (z : Str) : List P := z.cps.toList.map fun c => .str ⟨#[c]⟩
/-- a key, as a datum -/
def keyP : Key → P
  | .inl i => .int i
  | .inr z => .str z
theorem rep_key {G : Gx} {H : Hp} {ι : Io} (k : Key) : Rep G H ι (keyP k) (kV k) := by
  cases k with
  | inl i => exact rep_int
  | inr z => exact rep_str
def walk (x : P) : Option (List P) := match x with
  | .lst xs => some xs
  | .tup xs => some xs
  | .str z => some (letters z)
  | .dK ks _ => some (ks.map keyP)
  | .dT ks _ => some ks
  | _ => none
def itOf (d : D) (m : Mem) : Option Itm := match d with
  | .p x => (walk x).map fun xs => ⟨xs, fun _ => true⟩
  | .ref i => (match seen m[i]? with
    | some (.lst xs) => some ⟨xs, fun m => decide (seen m[i]? = some (.lst xs))⟩
    | _ => none)
  | .und => none
theorem itr_list {tt : Bool} {G : Gx} {H0 : Hp} {ι0 : Io} {it : Itm} {a : Addr} (h : ∀ ι H m, Mv ι0 H0 ι H → MRel G H ι m → it.ok m = true → ∃ vs, SqL G.K H a vs ∧ RepL G H ι it.items vs) :
    ItR tt G H0 ι0 it (Itl G.K a) := fun ι H m s M ok => by
  obtain ⟨vs, q, r⟩ := h ι H m s M ok
  refine ⟨fun i x e => ?_, ⟨vs, q, by rw [r.length]; exact Nat.le_refl _⟩⟩
  obtain ⟨v, ev, rv⟩ := r.get e
  refine ⟨⟨vs, v, q, ev⟩, fun w H' ⟨e1, e2⟩ => ?_⟩
  subst e1
  have z := e2 vs q
  rw [ev] at z; cases z
  exact ⟨.refl _, .inl rv⟩
theorem itr_tup {tt : Bool} {G : Gx} {H0 : Hp} {ι0 : Io} {it : Itm} {a : Addr} (h : ∀ ι H m, Mv ι0 H0 ι H → MRel G H ι m → it.ok m = true → ∃ vs, SqT G.K H a vs ∧ RepL G H ι it.items vs) :
    ItR tt G H0 ι0 it (Itt G.K a) := fun ι H m s M ok => by
  obtain ⟨vs, q, r⟩ := h ι H m s M ok
  refine ⟨fun i x e => ?_, ⟨vs, q, by rw [r.length]; exact Nat.le_refl _⟩⟩
  obtain ⟨v, ev, rv⟩ := r.get e
  refine ⟨⟨vs, v, q, ev⟩, fun w H' ⟨e1, e2⟩ => ?_⟩
  subst e1
  have z := e2 vs q
  rw [ev] at z; cases z
  exact ⟨.refl _, .inl rv⟩
theorem itr_dK {tt : Bool} {G : Gx} {H0 : Hp} {ι0 : Io} {it : Itm} {a : Addr} {o : Obj} {kvs : List (Key × V)} (h : Own H0 ι0 a (.frz o (.dK kvs))) (e : it.items = kvs.map fun kv => keyP kv.1) : ItR tt G H0 ι0 it (Itk a o kvs) := fun ι H m s M ok => by
  have h1 := (h.mv s fun ps z => by cases z).1
  refine ⟨fun i x ei => ?_, ⟨h1, by rw [e, List.length_map]; exact Nat.le_refl _⟩⟩
  rw [e, List.getElem?_map, Option.map_eq_some_iff] at ei
  obtain ⟨⟨k, v⟩, e1, e2⟩ := ei
  refine ⟨⟨h1, (List.getElem?_eq_some_iff.mp e1).1⟩, fun w H' ⟨e3, k', v', e4, e5⟩ => ?_⟩
  subst e3
  rw [e1] at e4; cases e4
  subst e2 e5
  exact ⟨.refl _, .inl (rep_key k)⟩
theorem tab_z {G : Gx} {a : Addr} {o : Obj} {ys : List (NestedKey × Addr × Value)} (t : TabO G a o ys) : ∃ es ep, DictZ a o es ep (ys.map fun y => V.ref y.2.1) := by
  obtain ⟨es, ep, hd, he⟩ := t.dat
  refine ⟨es, ep, t.sys, t.ex, hd, by rw [← Array.length_toList, he, List.length_map, List.length_map], fun i w hw => ?_⟩
  rw [List.getElem?_map, Option.map_eq_some_iff] at hw
  obtain ⟨y, hy, rfl⟩ := hw
  refine ⟨entryOfKey (nestedKind G.prog G.w) y, ?_, rfl⟩
  rw [← Array.getElem?_toList, he, List.getElem?_map, hy]
  rfl
theorem itr_z {tt : Bool} {G : Gx} {H0 : Hp} {ι0 : Io} {it : Itm} {a : Addr} {o : Obj} {ws : List V} (h : Own H0 ι0 a (.frz o (ExactO a o))) (r : RepL G H0 ι0 it.items ws) : ItR tt G H0 ι0 it (Itx a o ws) := fun ι H m s M ok => by
  have h1 := (h.mv s fun ps z => by cases z).1
  have r1 := RepL.mv s _ _ r
  refine ⟨fun i x ei => ?_, ⟨h1, by rw [r.length]; exact Nat.le_refl _⟩⟩
  obtain ⟨v, e1, e2⟩ := r1.get ei
  refine ⟨⟨h1, (List.getElem?_eq_some_iff.mp e1).1⟩, fun w H' ⟨e3, e4⟩ => ?_⟩
  subst e3
  rw [e1] at e4; cases e4
  exact ⟨.refl _, .inl e2⟩
theorem itr_str {tt : Bool} {G : Gx} {H0 : Hp} {ι0 : Io} {z : Str} {ok : Mem → Bool} : ItR tt G H0 ι0 ⟨letters z, ok⟩ (Its z) := fun ι H m s M _ => by
  refine ⟨fun i x e => ?_, ?_⟩
  · have e' : (z.cps.toList.map fun c => P.str ⟨#[c]⟩)[i]? = some x := e
    rw [List.getElem?_map, Option.map_eq_some_iff] at e'
    obtain ⟨c, h1, h2⟩ := e'
    rw [Array.getElem?_toList] at h1
    refine ⟨(Array.getElem?_eq_some_iff.mp h1).1, fun w H' ⟨e1, c', e2, e3⟩ => ?_⟩
    subst e1
    rw [h1] at e2; cases e2
    refine ⟨.refl _, ?_⟩
    subst h2 e3
    exact .inl rep_str
  · show z.cps.size ≤ (z.cps.toList.map fun c => P.str ⟨#[c]⟩).length
    simp
/-- the list at a, as the item's own words tell it -/
theorem it_src {G : Gx} {H0 : Hp} {ι0 : Io} {m0 : Mem} {d : D} {v : V} {it : Itm} (M0 : MRel G H0 ι0 m0) (r : RepD G H0 ι0 d v) (h : itOf d m0 = some it) :
    (∃ a, v = .ref a ∧ (∃ vs, SqL G.K H0 a vs ∧ RepL G H0 ι0 it.items vs) ∧ ∀ ι H m, Mv ι0 H0 ι H → MRel G H ι m → it.ok m = true → ∃ vs, SqL G.K H a vs ∧ RepL G H ι it.items vs) ∨
    (∃ a, v = .ref a ∧ (∃ vs, SqT G.K H0 a vs ∧ RepL G H0 ι0 it.items vs) ∧ ∀ ι H m, Mv ι0 H0 ι H → MRel G H ι m → it.ok m = true → ∃ vs, SqT G.K H a vs ∧ RepL G H ι it.items vs) ∨
    (∃ z, v = .str z ∧ it.items = letters z) ∨
    (∃ a o kvs, v = .ref a ∧ Own H0 ι0 a (.frz o (.dK kvs)) ∧ it.items = kvs.map fun kv => keyP kv.1) ∨
    ∃ a o ys, v = .ref a ∧ Own H0 ι0 a (.frz o (ExactO a o)) ∧ TabO G a o ys ∧ RepL G H0 ι0 it.items (ys.map fun y => V.ref y.2.1) := by
  unfold itOf at h
  cases d with
  | p x =>
    obtain ⟨xs, hx, e⟩ := Option.map_eq_some_iff.mp h
    subst e
    unfold walk at hx
    split at hx
    · cases hx
      simp only [RepD, Rep] at r
      obtain ⟨a, vs, e, t, rl⟩ := r
      exact .inl ⟨a, e, ⟨vs, t.sq, rl⟩, fun ι H m s M _ => ⟨vs, (t.mv s).sq, RepL.mv s _ _ rl⟩⟩
    · cases hx
      simp only [RepD, Rep] at r
      obtain ⟨a, vs, e, t, rl⟩ := r
      exact .inr (.inl ⟨a, e, ⟨vs, t.sq, rl⟩, fun ι H m s M _ => ⟨vs, (t.mv s).sq, RepL.mv s _ _ rl⟩⟩)
    · cases hx
      simp only [RepD, Rep] at r
      exact .inr (.inr (.inl ⟨_, r, rfl⟩))
    · rename_i ks xs'
      cases hx
      simp only [RepD, Rep] at r
      obtain ⟨a, o, vs, e, t, l, rl⟩ := r
      refine .inr (.inr (.inr (.inl ⟨a, o, _, e, t, ?_⟩)))
      have hl : ks.length = vs.length := l.trans rl.length
      show ks.map keyP = _
      rw [show (ks.zip vs).map (fun kv => keyP kv.1) = ((ks.zip vs).map Prod.fst).map keyP from by rw [List.map_map]; rfl, List.map_fst_zip (by omega)]
    · cases hx
      simp only [RepD, Rep] at r
      obtain ⟨a, o, ys, vs, e, t, tb, _, _, r1, _⟩ := r
      exact .inr (.inr (.inr (.inr ⟨a, o, ys, e, t, tb, r1⟩)))
    · cases hx
  | und => cases h
  | ref i =>
    dsimp only at h
    obtain ⟨a, ev, hi⟩ := r
    split at h
    · rename_i xs hs
      cases h
      have key : ∀ {ι : Io} {H : Hp} {m : Mem}, MRel G H ι m → (ι.at_[i]? = some (some a) ∨ ι.at_[i]? = some none) → seen m[i]? = some (.lst xs) → ∃ vs, SqL G.K H a vs ∧ RepL G H ι xs vs := fun {ι H m} M q e => by
        cases hm : m[i]? with
        | none => rw [hm] at e; cases e
        | some o =>
          rw [hm] at e
          cases o with
          | none => cases e
          | some o =>
            cases o with
            | lst ys =>
              have e' : some (P.lst ys) = some (P.lst xs) := e
              cases e'
              obtain ⟨_, vs, hH, rl⟩ := M.live hm q
              exact ⟨vs, .inl (.inl hH), rl⟩
            | dK ks ys =>
              have e' : some (P.dK ks ys) = some (P.lst xs) := e
              cases e'
            | dT ks ys =>
              have e' : some (P.dT ks ys) = some (P.lst xs) := e
              cases e'
            | ins C ns ds => cases e
      refine .inl ⟨a, ev, key M0 hi hs, fun ι H m s M ok => key M ?_ (by simpa using ok)⟩
      have z : RepD G H ι (.ref i) v := RepD.mv (d := .ref i) s ⟨a, ev, hi⟩
      obtain ⟨b, eb, q⟩ := z
      rw [ev] at eb
      cases eb
      exact q
    · cases h
def sIt (fa : FE) : FI := fun δ m => (fa δ m).bind fun d m => match itOf d m with
  | some it => .ok it m
  | none => .bad
section
variable {X : Cx} {W : WX} {tg e e2 : Expr} {es : List Expr} {fa fb : FE} {fr : FA} {p pos tpos : Pos} {elts : List Expr} {kk : Nat}
theorem di_any (ha : DE X W e fa) : DI X W tg e (sIt fa) := (pi_any ha).conv fun σ H R ⟨δ, m, ι, S, M, h⟩ => ⟨δ, m, ι, S, M, h.seq fun d m1 v H1 ι1 q s1 M1 r1 h1 => by
  clear q
  cases q : itOf d m1 with
  | none => rw [q] at h1; exact h1.elim
  | some it =>
    rw [q] at h1
    rcases it_src M1 r1 q with ⟨a, ev, ⟨vs, hq, _⟩, k⟩ | ⟨a, ev, ⟨vs, hq, _⟩, k⟩ | ⟨z, ev, k⟩ | ⟨a, o, kvs, ev, t, k⟩ | ⟨a, o, ys, ev, t, tb, k⟩
    · exact .inl ⟨a, ev, ⟨vs, hq⟩, h1 _ H1 ι1 (.refl _ _) M1 (itr_list k)⟩
    · exact .inr (.inl ⟨a, ev, ⟨vs, hq⟩, h1 _ H1 ι1 (.refl _ _) M1 (itr_tup k)⟩)
    · refine .inr (.inr (.inl ⟨z, ev, h1 _ H1 ι1 (.refl _ _) M1 ?_⟩))
      obtain ⟨its, ok⟩ := it
      cases (show its = letters z from k)
      exact itr_str
    · exact .inr (.inr (.inr (.inl ⟨a, o, kvs, ev, t.1, h1 _ H1 ι1 (.refl _ _) M1 (itr_dK t k)⟩)))
    · obtain ⟨es, ep, Z⟩ := tab_z tb
      exact .inr (.inr (.inr (.inr ⟨a, o, es, ep, _, ev, t.1, Z, h1 _ H1 ι1 (.refl _ _) M1 (itr_z t k)⟩)))⟩
/-- the numbers from lo -/
def upFrom (lo : Int) (n : Nat) : List P := (List.range n).map fun i => .int (lo + (i : Nat))
theorem itr_rng {tt : Bool} {G : Gx} {H0 : Hp} {ι0 : Io} {lo : Int} {n : Nat} {ok : Mem → Bool} : ItR tt G H0 ι0 ⟨upFrom lo n, ok⟩ (Itr lo n) := fun ι H m s M _ => by
  refine ⟨fun i x e => ?_, ?_⟩
  · have e' : ((List.range n).map fun i => P.int (lo + (i : Nat)))[i]? = some x := e
    rw [List.getElem?_map, Option.map_eq_some_iff] at e'
    obtain ⟨c, h1, h2⟩ := e'
    obtain ⟨hl, h1⟩ := List.getElem?_eq_some_iff.mp h1
    rw [List.getElem_range] at h1
    subst h1
    refine ⟨show i < n by simpa using hl, fun w H' ⟨e1, e2⟩ => ?_⟩
    subst e1
    refine ⟨.refl _, ?_⟩
    subst h2 e2
    exact .inl rep_int
  · show n ≤ ((List.range n).map fun i => P.int (lo + (i : Nat))).length
    simp
/-- the ends of a range -/
def rg1 (ds : List D) : Option Int := match ds with
  | [.p (.int j)] => if -(2 ^ 62) ≤ j ∧ j < 2 ^ 62 then some j else none
  | _ => none
def rg2 (ds : List D) : Option (Int × Int) := match ds with
  | [.p (.int i), .p (.int j)] => if -(2 ^ 62) ≤ i ∧ i < 2 ^ 62 ∧ -(2 ^ 62) ≤ j ∧ j < 2 ^ 62 then some (i, j) else none
  | _ => none
def sIt1 (fr : FA) : FI := fun δ m => (fr δ m).bind fun ds m => match rg1 ds with
  | some j => .ok ⟨upFrom 0 j.toNat, fun _ => true⟩ m
  | none => .bad
def sIt2 (fr : FA) : FI := fun δ m => (fr δ m).bind fun ds m => match rg2 ds with
  | some (i, j) => .ok ⟨upFrom i (j - i).toNat, fun _ => true⟩ m
  | none => .bad
theorem rep_d1 {G : Gx} {H : Hp} {ι : Io} {x : P} {vs : List V} (h : RepDL G H ι [.p x] vs) : ∃ v, vs = [v] ∧ Rep G H ι x v := by
  obtain ⟨v, t, e, r, rt⟩ := h
  cases (show t = [] from rt)
  exact ⟨v, e, r⟩
theorem rep_d2 {G : Gx} {H : Hp} {ι : Io} {x y : P} {vs : List V} (h : RepDL G H ι [.p x, .p y] vs) : ∃ v u, vs = [v, u] ∧ Rep G H ι x v ∧ Rep G H ι y u := by
  obtain ⟨v, t, e, r, u, t', e', r', rt⟩ := h
  cases (show t' = [] from rt)
  exact ⟨v, u, by rw [e, e'], r, r'⟩
theorem di_range1 (hm : X.mg "range" = none) (ha : DA X W [e] fr) (hg : Gl X "range" := by rfl) (hs : starEach [e] X.env = [(false, eval e X.env)] := by rfl) : DI X W tg (.Call (.Name "range" p) [e] [] pos) (sIt1 fr) :=
  (pi_range1 hg hm ha hs).conv fun σ H R ⟨δ, m, ι, S, M, h⟩ => ⟨δ, m, ι, S, M, h.seq fun ds m1 vs H1 ι1 q s1 M1 r1 h1 => by
    clear q
    cases q : rg1 ds with
    | none => rw [q] at h1; exact h1.elim
    | some j =>
      rw [q] at h1
      unfold rg1 at q
      split at q
      · rename_i j'
        split at q
        · rename_i hc
          cases q
          obtain ⟨v, e, r⟩ := rep_d1 r1
          simp only [Rep] at r
          subst r e
          exact ⟨j, rfl, hc.1, hc.2, h1 _ H1 ι1 (.refl _ _) M1 itr_rng⟩
        · cases q
      · cases q⟩
theorem di_range2 (hm : X.mg "range" = none) (ha : DA X W [e, e2] fr) (hg : Gl X "range" := by rfl) (hs : starEach [e, e2] X.env = [(false, eval e X.env), (false, eval e2 X.env)] := by rfl) (hs2 : starEach [e2] X.env = [(false, eval e2 X.env)] := by rfl) : DI X W tg (.Call (.Name "range" p) [e, e2] [] pos) (sIt2 fr) :=
  (pi_range2 hg hm ha hs hs2).conv fun σ H R ⟨δ, m, ι, S, M, h⟩ => ⟨δ, m, ι, S, M, h.seq fun ds m1 vs H1 ι1 q s1 M1 r1 h1 => by
    clear q
    cases q : rg2 ds with
    | none => rw [q] at h1; exact h1.elim
    | some ij =>
      rw [q] at h1
      unfold rg2 at q
      split at q
      · rename_i i' j'
        split at q
        · rename_i hc
          cases q
          obtain ⟨v, u, e, r, r'⟩ := rep_d2 r1
          simp only [Rep] at r r'
          subst r r' e
          exact ⟨_, _, rfl, hc, h1 _ H1 ι1 (.refl _ _) M1 itr_rng⟩
        · cases q
      · cases q⟩
end

/-! ### enumerate -/
section
variable {prog : Program} {w : World} {A : Around} {E : Value → Shared → Prop} {s : Shared}
set_option maxHeartbeats 1000000 in
theorem meets_enum_begins {v : Value} {o : Obj} {H : Heap → Prop} (B : Begins v o H) :
    Meets (Builtin.«enumerate.__new__» ⟨[.type "enumerate", v], []⟩) (fun _ R s => H s.heap ∧
      R (.ok (.ret (.ref (s.heap.push o).objs.size))) { s with heap := (s.heap.push o).push { cls := .type "enumerate", data := .fields #[.none, .bool false, .ref s.heap.objs.size, rawInt 0, .none, .none] } }) :=
  .of_wp fun prog w A R s h => by
    obtain ⟨hp, g, d, tk, os⟩ := s; obtain ⟨h1, h⟩ := h
    have hsub := sub_enumerate
    have q1 : ∀ {A' : Around} {E : Value → Shared → Prop} {Q : Value → Shared → Prop}, Q (.ref hp.objs.size) ⟨hp.push o, g, d, tk, os⟩ → wpAny (model prog w) A' (pyIter v) Q E ⟨hp, g, d, tk, os⟩ :=
      fun q => B.iter prog w _ _ ⟨hp, g, d, tk, os⟩ _ h1 q
    wp_walk using q1
    refine wpAny_stack_any fun st => wpAny_pure ?_
    split
    · rename_i c _ _ _ _ _
      cases (c == Value.type "enumerate")
      · wp_walk using q1
        exact ⟨_, rfl, h⟩
      · wp_walk using q1
        exact ⟨_, rfl, h⟩
    · wp_walk using q1
      exact ⟨_, rfl, h⟩
theorem call_enum_begins {v : Value} {o : Obj} {H : Heap → Prop} {Q : Value → Shared → Prop} (B : Begins v o H) (h1 : H s.heap)
    (h : ∀ h', IsEnum h' (s.heap.objs.size + 1) s.heap.objs.size 0 .none → h'.get? s.heap.objs.size = some o → h'.objs.size = s.heap.objs.size + 2 →
      (∀ b o, s.heap.get? b = some o → h'.get? b = some o) → Q (.ref (s.heap.objs.size + 1)) { s with heap := h' }) :
    wpAny (model prog w) A (call (.type "enumerate") [v]) Q E s := by
  refine callType_new F.called_enumerate (by decide) (F.typeCall_enumerate_1 _) (F.newCall_enumerate_1 _) (fun obj => F.args_object_init_2 obj _) F.entry_enumerate_new
    (meets_enum_begins B) ⟨h1, ?_⟩
  have hz : (s.heap.push o).objs.size = s.heap.objs.size + 1 := Heap.size_push ..
  show _ ∧ _
  rw [hz]
  have he : IsEnum ((s.heap.push o).push { cls := .type "enumerate", data := .fields #[.none, .bool false, .ref s.heap.objs.size, rawInt 0, .none, .none] }) (s.heap.objs.size + 1) s.heap.objs.size 0 .none := by
    have := Heap.get?_push_size (s.heap.push o) (o := { cls := .type "enumerate", data := .fields #[.none, .bool false, .ref s.heap.objs.size, rawInt 0, .none, .none] }) rfl
    rw [hz] at this; exact this
  refine ⟨⟨_, he, rfl⟩, h _ he (Heap.get?_push_of_some _ (Heap.get?_push_size _ B.free)) (by rw [Heap.size_push, hz]) fun b o x => Heap.get?_push_of_some _ (Heap.get?_push_of_some _ x)⟩
end
/-- the tuple at a, each item in a new pair -/
def IteT (K : PySem.W.Frag) (a : Addr) : It :=
  ⟨fun i H => ∃ (xs : List V) (x : V), SqT K H a xs ∧ xs[i]? = some x, fun i H v H' => ∃ T x, v = .ref T ∧ H T = none ∧ H' = upd H T (.tup [.int (i : Nat), x]) ∧ ∀ xs, SqT K H a xs → xs[i]? = some x, fun i H => ∃ xs : List V, SqT K H a xs ∧ xs.length = i⟩
theorem turn_enumT {P : Program} {w : World} {K : PySem.W.Frag} {elts : List Expr} {kk : Nat} {tpos : Pos} (a e it : Addr) :
    Turn P w K (.Tuple elts kk tpos) (IteT K a) [e, it] e (fun i h => (∃ old, IsEnum h e it ((i : Nat) : Int) old) ∧ h.IsTupleIter it a i ∧ e ≠ it) where
  mem := by simp
  obj := fun i h st b hb => by
    obtain ⟨⟨old, he⟩, ⟨o, ho, hc, hd⟩, _⟩ := st
    have e' : b = e ∨ b = it := by simpa using hb
    rcases e' with z | z
    · rw [z]; exact ⟨_, he, fun v q => nomatch q⟩
    · rw [z]; exact ⟨o, ho, fun v q => by rw [hd] at q; cases q⟩
  keep := fun i h h' st k => let ⟨⟨old, he⟩, hi, hne⟩ := st; ⟨⟨old, k e (by simp) _ he⟩, hi.at fun o q => k it (by simp) o q, hne⟩
  item := by
    intro X hP hw hK hc i pins s σ H E I hf st hg
    subst hP hw hK
    obtain ⟨⟨old, he⟩, hit, hne⟩ := st
    obtain ⟨xs, x, hq, hx⟩ := hg
    obtain ⟨its, rv, p, hz⟩ := I.tuple hq
    obtain ⟨u, hu, ru⟩ := rv.get hx
    have hel : e < s.heap.objs.size := Heap.lt_size he
    have hil : it < s.heap.objs.size := by obtain ⟨_, q, _⟩ := hit; exact Heap.lt_size q
    have ai : a ≠ it := fun z => by
      obtain ⟨o, h1, h2, n, h3⟩ := id p
      obtain ⟨o', h4, h5, h6⟩ := id hit
      rw [z, h4] at h1; cases h1
      rw [h6] at h3; cases h3
    have ea : e ≠ a := fun z => by
      obtain ⟨o, h1, h2, n, h3⟩ := id p
      have he' : s.heap.get? e = _ := he
      rw [z, h1] at he'; cases he'
      cases h3
    have hh : X.A.in1.handled = none := I.ok.hd hc
    have hxi : its.toArray[i]? = some u := by simpa using hu
    refine wpAny_pyNext_enum_itemC (Draws.tuple hh it a ai its.toArray) he ⟨hit, p⟩ (Array.getElem?_eq_some_iff.mp hxi).1 hne (by simp [hne, ea]) fun x' h' tk hP ho hst' hT hsz hk => ?_
    rw [hxi] at hP
    cases hP
    refine ⟨_, rfl, wpAny_letOwnedTupleGo_enum (s := { s with heap := h', toks := tk + 1 }) ho fun h'' he' sb => ?_⟩
    have hT2 : h''.get? s.heap.objs.size = some { cls := .type "tuple", data := .seq #[.int i tk, u] } := (sb.2 _ (Nat.ne_of_gt hel)).trans hT
    have new : ObjOk X.prog X.w (upd H s.heap.objs.size (.tup [.int (i : Nat), x])) h'' s.heap.objs.size (.tup [.int (i : Nat), x]) :=
      ⟨by show 2 ≤ sizeLine; decide, [.int i tk, u], .cons ⟨_, rfl⟩ (.cons ru .nil), ⟨_, hT2, rfl, _, rfl⟩⟩
    have I1 : Inv X pins σ (upd H s.heap.objs.size (.tup [.int (i : Nat), x])) { s with heap := h'', toks := tk + 1 } :=
      I.turnedNew (ch := [e, it]) (fun b ob hb q => (sb.2 b (fun z => hb (by simp [z]))).trans (hk b ob (fun z => hb (by simp [z])) (fun z => hb (by simp [z])) q)) hf (Nat.le_refl _) new
    refine ⟨.ref s.heap.objs.size, _, I1, rfl, ⟨_, x, rfl, I.hok.fresh (Nat.le_refl _), rfl, fun ys hy => by rw [I.tuple_inj hy hq]; exact hx⟩, ⟨⟨u, ?_⟩, hst'.1.at fun o q => (sb.2 it (Ne.symm hne)).trans q, hne⟩, fun b hb => ?_⟩
    · have e1 : ((i + 1 : Nat) : Int) = (i : Int) + 1 := by omega
      rw [e1]; exact he'
    · have hb' : b < s.heap.objs.size := by
        have e' : b = e ∨ b = it := by simpa using hb
        rcases e' with z | z
        · rw [z]; exact hel
        · rw [z]; exact hil
      rw [upd_ne (Nat.ne_of_lt hb')]
      exact (hf b hb).1
  done := by
    intro X hP hw hK hc i pins s σ H E I hf st hg
    subst hP hw hK
    obtain ⟨⟨old, he⟩, hit, hne⟩ := st
    obtain ⟨xs, hq, hx⟩ := hg
    obtain ⟨its, rv, p, hz⟩ := I.tuple hq
    obtain ⟨f0, f1, f2, f3, f4, f5⟩ := hf it (by simp)
    have hl := rv.length
    have ai : a ≠ it := fun z => by
      obtain ⟨o, h1, h2, n, h3⟩ := id p
      obtain ⟨o', h4, h5, h6⟩ := id hit
      rw [z, h4] at h1; cases h1
      rw [h6] at h3; cases h3
    have hh : X.A.in1.handled = none := I.ok.hd hc
    have hi : i = its.toArray.size := by rw [List.size_toArray, ← hl, hx]
    exact wpAny_pyNext_enum_endD (Draws.tuple hh it a ai its.toArray) he (by rw [← hi]; exact ⟨hit, p⟩) fun h' eb => ⟨rfl, I.turned (t' := s.toks) (fun b o hb q => eb b o hb q) f0 f1 f3 f4 f5⟩
  self := fun A i s Q E st h => let ⟨⟨_, he⟩, _⟩ := st; wpAny_pyIter_enum he h
end DL

set_option Elab.async false
set_option linter.all false
set_option maxRecDepth 100000
/-! The data layer, part h: enumerate, zip, loops, comprehensions. -/
namespace DL
open PySem PySem.Spec PyProof.Rows L2

/-- each with its number -/
def numd (xs : List P) : List P := xs.mapIdx fun i x => .tup [.int (i : Nat), x]
/-- two and two -/
def paird (xs ys : List P) : List P := List.zipWith (fun x y => .tup [x, y]) xs ys
theorem wk_pair {G : Gx} {H : Hp} {ι : Io} {x y : P} {v u : V} {T : Addr} (hT : H T = none) (r : Rep G H ι x v) (r' : Rep G H ι y u) : Wk true G (upd H T (.tup [v, u])) ι (.tup [x, y]) (.ref T) :=
  .inr ⟨rfl, _, _, _, rfl, rfl, .inl (.inl upd_same), RepL.step (.same (Same.upd hT)) _ _ (.cons r (.cons r' .nil))⟩
section
variable {G : Gx} {H0 : Hp} {ι0 : Io} {it it2 : Itm} {a b : Addr}
theorem numd_get {xs : List P} {i : Nat} {z : P} (e : (numd xs)[i]? = some z) : ∃ x, xs[i]? = some x ∧ z = .tup [.int (i : Nat), x] := by
  unfold numd at e
  rw [List.getElem?_mapIdx, Option.map_eq_some_iff] at e
  obtain ⟨x, h1, h2⟩ := e
  exact ⟨x, h1, h2.symm⟩
theorem numd_len (xs : List P) : (numd xs).length = xs.length := by simp [numd]
theorem itr_enum (h : ∀ ι H m, Mv ι0 H0 ι H → MRel G H ι m → it.ok m = true → ∃ vs, SqL G.K H a vs ∧ RepL G H ι it.items vs) : ItR true G H0 ι0 ⟨numd it.items, it.ok⟩ (Ite G.K a) := fun ι H m s M ok => by
  obtain ⟨vs, q, r⟩ := h ι H m s M ok
  refine ⟨fun i z e => ?_, ⟨vs, q, by rw [← r.length]; exact Nat.le_of_eq (numd_len _).symm⟩⟩
  obtain ⟨x, ex, ez⟩ := numd_get e
  obtain ⟨v, ev, rv⟩ := r.get ex
  refine ⟨⟨vs, v, q, ev⟩, fun w H' ⟨T, u, e1, hT, e2, e3⟩ => ?_⟩
  have z' := e3 vs q
  rw [ev] at z'; cases z'
  subst e1 e2 ez
  exact ⟨Same.upd hT, wk_pair hT rep_int rv⟩
theorem itr_enumT (h : ∀ ι H m, Mv ι0 H0 ι H → MRel G H ι m → it.ok m = true → ∃ vs, SqT G.K H a vs ∧ RepL G H ι it.items vs) : ItR true G H0 ι0 ⟨numd it.items, it.ok⟩ (IteT G.K a) := fun ι H m s M ok => by
  obtain ⟨vs, q, r⟩ := h ι H m s M ok
  refine ⟨fun i z e => ?_, ⟨vs, q, by rw [← r.length]; exact (numd_len _).symm⟩⟩
  obtain ⟨x, ex, ez⟩ := numd_get e
  obtain ⟨v, ev, rv⟩ := r.get ex
  refine ⟨⟨vs, v, q, ev⟩, fun w H' ⟨T, u, e1, hT, e2, e3⟩ => ?_⟩
  have z' := e3 vs q
  rw [ev] at z'; cases z'
  subst e1 e2 ez
  exact ⟨Same.upd hT, wk_pair hT rep_int rv⟩
theorem paird_get {xs ys : List P} {i : Nat} {z : P} (e : (paird xs ys)[i]? = some z) : ∃ x y, xs[i]? = some x ∧ ys[i]? = some y ∧ z = .tup [x, y] := by
  unfold paird at e
  rw [List.getElem?_zipWith] at e
  cases hx : xs[i]? with
  | none => rw [hx] at e; simp at e
  | some x =>
    cases hy : ys[i]? with
    | none => rw [hx, hy] at e; simp at e
    | some y => rw [hx, hy] at e; simp at e; exact ⟨x, y, rfl, rfl, e.symm⟩
theorem paird_len (xs ys : List P) : (paird xs ys).length = min xs.length ys.length := by simp [paird]
theorem itr_zip (h : ∀ ι H m, Mv ι0 H0 ι H → MRel G H ι m → it.ok m = true → ∃ vs, SqL G.K H a vs ∧ RepL G H ι it.items vs)
    (h2 : ∀ ι H m, Mv ι0 H0 ι H → MRel G H ι m → it2.ok m = true → ∃ vs, SqL G.K H b vs ∧ RepL G H ι it2.items vs) : ItR true G H0 ι0 ⟨paird it.items it2.items, fun m => it.ok m && it2.ok m⟩ (Itz G.K a b) := fun ι H m s M ok => by
  have ok' := Bool.and_eq_true_iff.mp ok
  obtain ⟨vs, q, r⟩ := h ι H m s M ok'.1
  obtain ⟨us, q', r'⟩ := h2 ι H m s M ok'.2
  refine ⟨fun i z e => ?_, ⟨vs, us, q, q', ?_⟩⟩
  · obtain ⟨x, y, ex, ey, ez⟩ := paird_get e
    obtain ⟨v, ev, rv⟩ := r.get ex
    obtain ⟨u, eu, ru⟩ := r'.get ey
    refine ⟨⟨vs, us, v, u, q, q', ev, eu⟩, fun w H' ⟨T, v', u', e1, hT, e2, e3, e4⟩ => ?_⟩
    have z1 := e3 vs q
    have z2 := e4 us q'
    rw [ev] at z1; cases z1
    rw [eu] at z2; cases z2
    subst e1 e2 ez
    exact ⟨Same.upd hT, wk_pair hT rv ru⟩
  · have e1 := r.length
    have e2 := r'.length
    have e3 := paird_len it.items it2.items
    show vs.length ≤ (paird it.items it2.items).length ∨ us.length ≤ (paird it.items it2.items).length
    omega
theorem itr_zipT (h : ∀ ι H m, Mv ι0 H0 ι H → MRel G H ι m → it.ok m = true → ∃ vs, SqT G.K H a vs ∧ RepL G H ι it.items vs)
    (h2 : ∀ ι H m, Mv ι0 H0 ι H → MRel G H ι m → it2.ok m = true → ∃ vs, SqT G.K H b vs ∧ RepL G H ι it2.items vs) : ItR true G H0 ι0 ⟨paird it.items it2.items, fun m => it.ok m && it2.ok m⟩ (RZ.ItzT G.K a b) := fun ι H m s M ok => by
  have ok' := Bool.and_eq_true_iff.mp ok
  obtain ⟨vs, q, r⟩ := h ι H m s M ok'.1
  obtain ⟨us, q', r'⟩ := h2 ι H m s M ok'.2
  refine ⟨fun i z e => ?_, ⟨vs, us, q, q', ?_⟩⟩
  · obtain ⟨x, y, ex, ey, ez⟩ := paird_get e
    obtain ⟨v, ev, rv⟩ := r.get ex
    obtain ⟨u, eu, ru⟩ := r'.get ey
    refine ⟨⟨vs, us, v, u, q, q', ev, eu⟩, fun w H' ⟨T, v', u', e1, hT, e2, e3, e4⟩ => ?_⟩
    have z1 := e3 vs q
    have z2 := e4 us q'
    rw [ev] at z1; cases z1
    rw [eu] at z2; cases z2
    subst e1 e2 ez
    exact ⟨Same.upd hT, wk_pair hT rv ru⟩
  · have e1 := r.length
    have e2 := r'.length
    have e3 := paird_len it.items it2.items
    show vs.length ≤ (paird it.items it2.items).length ∨ us.length ≤ (paird it.items it2.items).length
    omega
end
/-- enumerate of a list or a tuple -/
def iEnumA (K : PySem.W.Frag) (ta : TA) : TI := fun σ H R => ta σ H fun vs H1 => (∃ a xs, vs = [.ref a] ∧ SqL K H1 a xs ∧ R (Ite K a) H1) ∨ ∃ a xs, vs = [.ref a] ∧ SqT K H1 a xs ∧ R (IteT K a) H1
theorem pi_enumA {X : Cx} {e : Expr} {ta : TA} {p pos tpos : Pos} {elts : List Expr} {kk : Nat} (hg : Gl X "enumerate") (hm : X.mg "enumerate" = none) (ha : PA X [e] ta) (hs : starEach [e] X.env = [(false, eval e X.env)] := by rfl) :
    PI X (.Tuple elts kk tpos) (.Call (.Name "enumerate" p) [e] [] pos) (iEnumA X.K ta) := by
  refine ⟨fun pins s σ H R I h => ?_⟩
  refine Call_ (ld_blt I hg hm PyProof.Rows.boot_enumerate (PyProof.Rows.callWith_type1 (thn (ha.run pos pins s σ H _ I h) fun us s1 ⟨vs, H1, I1, r1, q1⟩ => ?_) hs rfl))
  have fr : ∀ b ∈ [s1.heap.objs.size + 1, s1.heap.objs.size], FpOk X pins H1 b := fun b hb => by
    have e' : b = s1.heap.objs.size + 1 ∨ b = s1.heap.objs.size := by simpa using hb
    have hle : s1.heap.objs.size ≤ b := by
      rcases e' with z | z
      · rw [z]; exact Nat.le_add_right _ _
      · rw [z]; exact Nat.le_refl _
    exact I1.fpOk hle (I1.hok.fresh hle)
  rcases q1 with ⟨a, xs, ex, hq, q⟩ | ⟨a, xs, ex, hq, q⟩
  · subst ex
    cases r1 with
    | cons r rr =>
      cases rr
      cases r
      obtain ⟨its, rv, p', hz⟩ := I1.list hq
      refine call_enumerate_list p'.isList fun h' he hit hsz hk => wpAny_pyIter_enum he ?_
      have I2 : Inv X pins σ H1 { s1 with heap := h' } := I1.kept (t' := s1.toks) hk
      exact ⟨s1.heap.objs.size + 1, [s1.heap.objs.size + 1, s1.heap.objs.size], _, _, H1, rfl, I2, turn_enum a (s1.heap.objs.size + 1) s1.heap.objs.size, ⟨⟨.none, he⟩, hit, Nat.succ_ne_self _⟩, fr, q⟩
  · subst ex
    cases r1 with
    | cons r rr =>
      cases rr
      cases r
      obtain ⟨its, rv, p', hz⟩ := I1.tuple hq
      refine call_enum_begins (begins_tuple a its.toArray) p' fun h' he hit hsz hk => wpAny_pyIter_enum he ?_
      have I2 : Inv X pins σ H1 { s1 with heap := h' } := I1.kept (t' := s1.toks) hk
      exact ⟨s1.heap.objs.size + 1, [s1.heap.objs.size + 1, s1.heap.objs.size], _, _, H1, rfl, I2, turn_enumT a (s1.heap.objs.size + 1) s1.heap.objs.size, ⟨⟨.none, he⟩, ⟨_, hit, rfl, rfl⟩, Nat.succ_ne_self _⟩, fr, q⟩
/-- neither a list nor a tuple -/
def isStr : Option P → Bool
  | some (.lst _) => false
  | some (.tup _) => false
  | _ => true
def sItE (fr : FA) : FI := fun δ m => (fr δ m).bind fun ds m => match ds with
  | [d] => (match itOf d m with
    | some it => if isStr (view d m) = true then .bad else .ok ⟨numd it.items, it.ok⟩ m
    | none => .bad)
  | _ => .bad
def sItZ (fr : FA) : FI := fun δ m => (fr δ m).bind fun ds m => match ds with
  | [d, e] => (match itOf d m, itOf e m, view d m, view e m with
    | some it, some it2, some (.lst _), some (.lst _) => .ok ⟨paird it.items it2.items, fun m => it.ok m && it2.ok m⟩ m
    | some it, some it2, some (.tup _), some (.tup _) => .ok ⟨paird it.items it2.items, fun m => it.ok m && it2.ok m⟩ m
    | _, _, _, _ => .bad)
  | _ => .bad
theorem RepDL.one {G : Gx} {H : Hp} {ι : Io} {d : D} {vs : List V} (h : RepDL G H ι [d] vs) : ∃ v, vs = [v] ∧ RepD G H ι d v := by
  obtain ⟨v, t, e, r, rt⟩ := h
  cases (show t = [] from rt)
  exact ⟨v, e, r⟩
theorem RepDL.two {G : Gx} {H : Hp} {ι : Io} {d e : D} {vs : List V} (h : RepDL G H ι [d, e] vs) : ∃ v u, vs = [v, u] ∧ RepD G H ι d v ∧ RepD G H ι e u := by
  obtain ⟨v, t, e, r, u, t', e', r', rt⟩ := h
  cases (show t' = [] from rt)
  exact ⟨v, u, by rw [e, e'], r, r'⟩
theorem ref_list {G : Gx} {ι : Io} {H : Hp} {m : Mem} {i : Nat} {a : Addr} {xs : List P} (M : MRel G H ι m) (q : ι.at_[i]? = some (some a) ∨ ι.at_[i]? = some none) (e : seen m[i]? = some (.lst xs)) : ∃ vs, SqL G.K H a vs ∧ RepL G H ι xs vs := by
  cases hm : m[i]? with
  | none => rw [hm] at e; cases e
  | some o =>
    rw [hm] at e
    cases o with
    | none => cases e
    | some o =>
      cases o with
      | lst ys =>
        have e' : some (P.lst ys) = some (P.lst xs) := e
        cases e'
        obtain ⟨_, vs, hH, rl⟩ := M.live hm q
        exact ⟨vs, .inl (.inl hH), rl⟩
      | dK ks ys =>
        have e' : some (P.dK ks ys) = some (P.lst xs) := e
        cases e'
      | dT ks ys =>
        have e' : some (P.dT ks ys) = some (P.lst xs) := e
        cases e'
      | ins C ns ds => cases e
theorem it_list {G : Gx} {H0 : Hp} {ι0 : Io} {m0 : Mem} {d : D} {v : V} {it : Itm} {xs : List P} (M0 : MRel G H0 ι0 m0) (r : RepD G H0 ι0 d v) (h : itOf d m0 = some it) (hv : view d m0 = some (.lst xs)) :
    ∃ a, v = .ref a ∧ (∃ vs, SqL G.K H0 a vs ∧ RepL G H0 ι0 it.items vs) ∧ ∀ ι H m, Mv ι0 H0 ι H → MRel G H ι m → it.ok m = true → ∃ vs, SqL G.K H a vs ∧ RepL G H ι it.items vs := by
  cases d with
  | p x =>
    cases hv
    cases h
    simp only [RepD, Rep] at r
    obtain ⟨a, vs, e, t, rl⟩ := r
    exact ⟨a, e, ⟨vs, t.sq, rl⟩, fun ι H m s M _ => ⟨vs, (t.mv s).sq, RepL.mv s _ _ rl⟩⟩
  | und => cases h
  | ref i =>
    obtain ⟨a, ev, hi⟩ := id r
    rw [view_ref] at hv
    unfold itOf at h
    dsimp only at h
    rw [hv] at h
    cases h
    refine ⟨a, ev, ref_list M0 hi hv, fun ι H m s M ok => ref_list M ?_ (by simpa using ok)⟩
    obtain ⟨b, eb, q⟩ := RepD.mv (G := G) (d := .ref i) s ⟨a, ev, hi⟩
    rw [ev] at eb
    cases eb
    exact q
theorem it_tup {G : Gx} {H0 : Hp} {ι0 : Io} {m0 : Mem} {d : D} {v : V} {it : Itm} {xs : List P} (M0 : MRel G H0 ι0 m0) (r : RepD G H0 ι0 d v) (h : itOf d m0 = some it) (hv : view d m0 = some (.tup xs)) :
    ∃ a, v = .ref a ∧ (∃ vs, SqT G.K H0 a vs ∧ RepL G H0 ι0 it.items vs) ∧ ∀ ι H m, Mv ι0 H0 ι H → MRel G H ι m → it.ok m = true → ∃ vs, SqT G.K H a vs ∧ RepL G H ι it.items vs := by
  cases d with
  | p x =>
    cases hv
    cases h
    simp only [RepD, Rep] at r
    obtain ⟨a, vs, e, t, rl⟩ := r
    exact ⟨a, e, ⟨vs, t.sq, rl⟩, fun ι H m s M _ => ⟨vs, (t.mv s).sq, RepL.mv s _ _ rl⟩⟩
  | und => cases h
  | ref i =>
    unfold itOf at h
    dsimp only at h
    rw [view_ref] at hv
    rw [hv] at h
    cases h
section
variable {X : Cx} {W : WX} {tg e e2 : Expr} {es : List Expr} {fa fb : FE} {fr : FA} {p pos tpos : Pos} {elts : List Expr} {kk : Nat}
theorem di_enum (hm : X.mg "enumerate" = none) (ha : DA X W [e] fr) (hg : Gl X "enumerate" := by rfl) (hs : starEach [e] X.env = [(false, eval e X.env)] := by rfl) : DI X W (.Tuple elts kk tpos) (.Call (.Name "enumerate" p) [e] [] pos) (sItE fr) :=
  (pi_enumA hg hm ha hs).conv fun σ H R ⟨δ, m, ι, S, M, h⟩ => ⟨δ, m, ι, S, M, h.seq fun ds m1 vs H1 ι1 q s1 M1 r1 h1 => by
    clear q
    split at h1
    · rename_i d
      obtain ⟨v, ev, r⟩ := r1.one
      subst ev
      cases q : itOf d m1 with
      | none => rw [q] at h1; exact h1.elim
      | some it =>
        rw [q] at h1
        dsimp only at h1
        split at h1
        · exact h1.elim
        · rename_i ns
          cases hv : view d m1 with
          | none => rw [hv] at ns; exact absurd rfl ns
          | some x =>
            rw [hv] at ns
            cases x with
            | lst xs =>
              obtain ⟨a, ev, ⟨vs, hq, _⟩, k⟩ := it_list M1 r q hv
              exact .inl ⟨a, vs, by rw [ev], hq, h1 _ H1 ι1 (.refl _ _) M1 (itr_enum k)⟩
            | tup xs =>
              obtain ⟨a, ev, ⟨vs, hq, _⟩, k⟩ := it_tup M1 r q hv
              exact .inr ⟨a, vs, by rw [ev], hq, h1 _ H1 ι1 (.refl _ _) M1 (itr_enumT k)⟩
            | _ => exact absurd rfl ns
    · exact h1.elim⟩
theorem di_zip (hm : X.mg "zip" = none) (ha : DA X W [e, e2] fr) (hg : Gl X "zip" := by rfl)
    (hs : starEach [e, e2] X.env = (false, eval e X.env) :: starEach [e2] X.env := by rfl) (hpl : (backTo pos (starEach [e2] X.env)).any (·.1) = false := by rfl) :
    DI X W (.Tuple elts kk tpos) (.Call (.Name "zip" p) [e, e2] [] pos) (sItZ fr) :=
  (RZ.pi_zipA hg hm ha hs hpl).conv fun σ H R ⟨δ, m, ι, S, M, h⟩ => ⟨δ, m, ι, S, M, h.seq fun ds m1 vs H1 ι1 q s1 M1 r1 h1 => by
    clear q
    split at h1
    · rename_i d1 d2
      obtain ⟨v, u, ev, r, r'⟩ := r1.two
      subst ev
      split at h1
      · rename_i it it2 _ _ q1 q2 q3 q4
        obtain ⟨a, ev, ⟨vs, hq, _⟩, k⟩ := it_list M1 r q1 q3
        obtain ⟨b, eu, ⟨us, hq', _⟩, k'⟩ := it_list M1 r' q2 q4
        exact ⟨a, b, vs, us, by rw [ev, eu], .inl ⟨hq, hq', h1 _ H1 ι1 (.refl _ _) M1 (itr_zip k k')⟩⟩
      · rename_i it it2 _ _ q1 q2 q3 q4
        obtain ⟨a, ev, ⟨vs, hq, _⟩, k⟩ := it_tup M1 r q1 q3
        obtain ⟨b, eu, ⟨us, hq', _⟩, k'⟩ := it_tup M1 r' q2 q4
        exact ⟨a, b, vs, us, by rw [ev, eu], .inr ⟨hq, hq', h1 _ H1 ι1 (.refl _ _) M1 (itr_zipT k k')⟩⟩
      · exact h1.elim
    · exact h1.elim⟩
end

/-! ### for -/
def forL (g : FG) (fb : FS) (ok : Mem → Bool) : List P → FS
  | [], δ, m => if ok m = true then .nx δ m else .bad
  | x :: xs, δ, m => if ok m = true then (match g (.p x) δ with
    | some δ1 => (match fb δ1 m with
      | .nx δ2 m2 => forL g fb ok xs δ2 m2
      | .ct δ2 m2 => forL g fb ok xs δ2 m2
      | .bk δ2 m2 => .nx δ2 m2
      | .rt d m2 => .rt d m2
      | .ex x δ2 m2 => .ex x δ2 m2
      | .bad => .bad)
    | none => .bad) else .bad
/-- an expression's result, then a statement -/
def thenS {α : Type} (r : ER α) (δ : DS) (k : α → Mem → SR) : SR := match r with
  | .ok a m => k a m
  | .ex x m => .ex x δ m
  | .bad => .bad
@[simp] theorem thenS_ok {α : Type} (a : α) (m : Mem) (δ : DS) (k : α → Mem → SR) : thenS (.ok a m) δ k = k a m := rfl
@[simp] theorem thenS_ex {α : Type} (x : P) (m : Mem) (δ : DS) (k : α → Mem → SR) : thenS (.ex x m) δ k = .ex x δ m := rfl
@[simp] theorem thenS_bad {α : Type} (δ : DS) (k : α → Mem → SR) : thenS .bad δ k = .bad := rfl
def sFor (fi : FI) (g : FG) (fb : FS) : FS := fun δ m => thenS (fi δ m) δ fun it m => forL g fb it.ok it.items δ m
section
variable {X : Cx} {W : WX} {tg iter e c : Expr} {body : List Stmt} {fi : FI} {g : FG} {is : List Nat} {fb : FS} {fe : FE} {gc : FB} {pos : Pos} {δ : DS} {σ : L2.St} {H : Hp} {ι : Io} {E : Ends}
theorem SRP.imp {r : SR} {E E' : Ends} (h : SRP (gx X) W ι H r E) (k1 : ∀ σ H, E.nx σ H → E'.nx σ H) (k2 : ∀ v H, E.rt v H → E'.rt v H) (k3 : ∀ σ H, E.bk σ H → E'.bk σ H) (k4 : ∀ σ H, E.ct σ H → E'.ct σ H) : SRP (gx X) W ι H r E' := by
  cases r with
  | nx δ m => exact fun σ' H' ι' s M S => k1 _ _ (h σ' H' ι' s M S)
  | rt d m => exact fun σ' H' ι' s M S => k2 _ _ (h σ' H' ι' s M S)
  | bk δ m => exact fun σ' H' ι' s M S => k3 _ _ (h σ' H' ι' s M S)
  | ct δ m => exact fun σ' H' ι' s M S => k4 _ _ (h σ' H' ι' s M S)
  | ex x δ m => exact h
  | bad => exact h
theorem SRP.then {α β : Type} {rel : Hp → Io → α → β → Prop} {r : ER α} {k : α → Mem → SR} {Q : β → Hp → Prop} (S : SRel (gx X) H ι σ δ) (h : SRP (gx X) W ι H (thenS r δ k) E)
    (t : ∀ a m1 v H1 ι1, r = .ok a m1 → Step ι H ι1 H1 → MRel (gx X) H1 ι1 m1 → rel H1 ι1 a v → SRel (gx X) H1 ι1 σ δ → SRP (gx X) W ι1 H1 (k a m1) E → Q v H1) : ERP (gx X) W σ ι H rel r Q := by
  cases r with
  | ok a m => exact fun v H' ι' s M rr => t a m v H' ι' rfl s M rr (S.step s) (SRP.step s h)
  | ex x m => exact fun c dd H' ι' s M xr => h c dd σ H' ι' s M (S.step s) xr
  | bad => exact h
theorem dt_for (hp : PassesOwn (model X.prog X.w) X.A X.env X.xe) (hc : X.calm = true) (hi : DI X W tg iter fi) (hg : DG X tg g is) (hb : DTs X W body fb)
    (hs : ∀ x, foldedSetIterable iter X.env x = pure x := by intro _; rfl) : DT X W (.For tg iter body [] pos) (sFor fi g fb) :=
  (ps_for hp hc hi hg hb hs).conv fun E σ H ⟨δ, m, ι, S, M, h⟩ => by
    refine ⟨δ, m, ι, S, M, ?_⟩
    have h' : SRP (gx X) W ι H (thenS (fi δ m) δ fun it m => forL g fb it.ok it.items δ m) E := h
    refine h'.then S fun it m1 J H1 ι1 _ s1 M1 R1 S1 h1 => ?_
    refine ⟨fun i k σ H => k = it.items.length - i ∧ i ≤ it.items.length ∧ ∃ δ m ι, Mv ι1 H1 ι H ∧ SRel (gx X) H ι σ δ ∧ MRel (gx X) H ι m ∧ SRP (gx X) W ι H (forL g fb it.ok (it.items.drop i) δ m) E,
      ⟨_, rfl, Nat.zero_le _, δ, m1, ι1, .refl _ _, S1, M1, h1⟩, ?_⟩
    rintro i k σ2 H2 ⟨rfl, hi, δ2, m2, ι2, mv, S2, M2, h2⟩
    by_cases hlt : i < it.items.length
    · right
      have ed : it.items.drop i = it.items[i] :: it.items.drop (i + 1) := List.drop_eq_getElem_cons hlt
      rw [ed] at h2
      unfold forL at h2
      split at h2
      · rename_i ok
        obtain ⟨go, _⟩ := R1 ι2 H2 m2 mv M2 ok
        obtain ⟨go, yl⟩ := go i it.items[i] (List.getElem?_eq_getElem hlt)
        refine ⟨go, fun σ' H' => ∃ δ m ι, Mv ι1 H1 ι H' ∧ SRel (gx X) H' ι σ' δ ∧ MRel (gx X) H' ι m ∧ SRP (gx X) W ι H' (forL g fb it.ok (it.items.drop (i + 1)) δ m) E, fun σ' H' hn => ⟨it.items.length - (i + 1), by omega, rfl, hlt, hn⟩, fun v H' y => ?_⟩
        obtain ⟨sm, rv⟩ := yl v H' y
        split at h2
        · rename_i δ3 hg3
          refine ⟨δ2, ι2, .p it.items[i], δ3, S2.step (.same sm), .inr ⟨_, rfl, rv⟩, hg3, fun σ4 S4 _ => ?_⟩
          have M4 := M2.same sm
          refine ⟨δ3, m2, ι2, S4, M4, ?_⟩
          have mv4 : Mv ι1 H1 ι2 H' := mv.trans (Step.same sm).mv
          have s4 : Step ι2 H2 ι2 H' := .same sm
          cases hb5 : fb δ3 m2 with
          | nx δ5 m5 => rw [hb5] at h2; exact fun σ' H6 ι' st Mr Sr => ⟨δ5, m5, ι', mv4.trans st.mv, Sr, Mr, SRP.step (s4.trans st) h2⟩
          | ct δ5 m5 => rw [hb5] at h2; exact fun σ' H6 ι' st Mr Sr => ⟨δ5, m5, ι', mv4.trans st.mv, Sr, Mr, SRP.step (s4.trans st) h2⟩
          | bk δ5 m5 => rw [hb5] at h2; exact fun σ' H6 ι' st Mr Sr => h2 σ' H6 ι' (s4.trans st) Mr Sr
          | rt d m5 => rw [hb5] at h2; exact fun σ' H6 ι' st Mr Sr => h2 σ' H6 ι' (s4.trans st) Mr Sr
          | ex x δ5 m5 => rw [hb5] at h2; exact fun c dd σ' H6 ι' st Mr Sr => h2 c dd σ' H6 ι' (s4.trans st) Mr Sr
          | bad => rw [hb5] at h2; exact h2
        · exact h2.elim
      · exact h2.elim
    · left
      have ei : i = it.items.length := by omega
      subst ei
      rw [List.drop_length] at h2
      unfold forL at h2
      split at h2
      · rename_i ok
        exact ⟨(R1 ι2 H2 m2 mv M2 ok).2, h2 σ2 H2 ι2 (.refl _ _) M2 S2⟩
      · exact h2.elim

/-! ### while -/
def whileF (gc : FB) (fb : FS) : Nat → FS
  | 0, _, _ => .bad
  | n + 1, δ, m => match gc δ m with
    | .ok false m1 => .nx δ m1
    | .ok true m1 => (match fb δ m1 with
      | .nx δ2 m2 => whileF gc fb n δ2 m2
      | .ct δ2 m2 => whileF gc fb n δ2 m2
      | .bk δ2 m2 => .nx δ2 m2
      | .rt d m2 => .rt d m2
      | .ex x δ2 m2 => .ex x δ2 m2
      | .bad => .bad)
    | .ex x m1 => .ex x δ m1
    | .bad => .bad
open Classical in
/-- as often as it takes -/
noncomputable def sWhile (gc : FB) (fb : FS) : FS := fun δ m => if h : ∃ n, whileF gc fb n δ m ≠ .bad then whileF gc fb (choose h) δ m else .bad
theorem whileF_up {gc : FB} {fb : FS} : ∀ (n : Nat) (δ : DS) (m : Mem), whileF gc fb n δ m ≠ .bad → whileF gc fb (n + 1) δ m = whileF gc fb n δ m
  | 0, δ, m, h => absurd rfl h
  | n + 1, δ, m, h => by
    rw [whileF]
    rw [whileF] at h
    conv => rhs; rw [whileF]
    cases hgc : gc δ m with
    | ex x m1 => rfl
    | bad => rfl
    | ok c m1 =>
      rw [hgc] at h
      cases c with
      | false => rfl
      | true =>
        dsimp only at h ⊢
        cases hb : fb δ m1 with
        | nx δ2 m2 => rw [hb] at h; exact whileF_up n δ2 m2 h
        | ct δ2 m2 => rw [hb] at h; exact whileF_up n δ2 m2 h
        | _ => rfl
theorem whileF_le {gc : FB} {fb : FS} {n k : Nat} {δ : DS} {m : Mem} (h : whileF gc fb n δ m ≠ .bad) (hk : n ≤ k) : whileF gc fb k δ m = whileF gc fb n δ m := by
  induction hk with
  | refl => rfl
  | @step j hj ih => rw [whileF_up j δ m (by rw [ih]; exact h), ih]
open Classical in
theorem sWhile_eq {gc : FB} {fb : FS} {n : Nat} {δ : DS} {m : Mem} (h : whileF gc fb n δ m ≠ .bad) : sWhile gc fb δ m = whileF gc fb n δ m := by
  have ex : ∃ n, whileF gc fb n δ m ≠ .bad := ⟨n, h⟩
  unfold sWhile
  rw [dif_pos ex]
  have hc := choose_spec ex
  rcases Nat.le_total n (choose ex) with l | l
  · exact whileF_le h l
  · exact (whileF_le hc l).symm
open Classical in
theorem sWhile_fuel {gc : FB} {fb : FS} {δ : DS} {m : Mem} : ∃ n, sWhile gc fb δ m = whileF gc fb n δ m := by
  unfold sWhile
  split
  · exact ⟨_, rfl⟩
  · exact ⟨0, rfl⟩
theorem dt_while (hp : PassesOwn (model X.prog X.w) X.A X.env X.xe) (hc : DB X W c gc) (hb : DTs X W body fb) : DT X W (.While c body [] pos) (sWhile gc fb) :=
  (ps_while hp hc hb).conv fun E σ H ⟨δ, m, ι, S, M, h⟩ => by
    obtain ⟨n, en⟩ := sWhile_fuel (gc := gc) (fb := fb) (δ := δ) (m := m)
    rw [en] at h
    refine ⟨fun n σ H => ∃ δ m ι, SRel (gx X) H ι σ δ ∧ MRel (gx X) H ι m ∧ SRP (gx X) W ι H (whileF gc fb n δ m) E, ⟨n, δ, m, ι, S, M, h⟩, ?_⟩
    rintro n σ2 H2 ⟨δ2, m2, ι2, S2, M2, h2⟩
    cases n with
    | zero => exact h2.elim
    | succ n =>
      rw [whileF] at h2
      refine ⟨δ2, m2, ι2, S2, M2, ?_⟩
      cases hg : gc δ2 m2 with
      | bad => rw [hg] at h2; exact h2
      | ex x m3 => rw [hg] at h2; exact fun cc dd H3 ι3 s M3 xr => h2 cc dd σ2 H3 ι3 s M3 (S2.step s) xr
      | ok k m3 =>
        rw [hg] at h2
        intro b H3 ι3 s M3 eb
        subst eb
        cases k with
        | false => rw [if_neg (by decide)]; exact h2 σ2 H3 ι3 s M3 (S2.step s)
        | true =>
          rw [if_pos rfl]
          dsimp only at h2
          refine ⟨fun σ' H' => ∃ δ m ι, SRel (gx X) H' ι σ' δ ∧ MRel (gx X) H' ι m ∧ SRP (gx X) W ι H' (whileF gc fb n δ m) E, fun σ' H' q => ⟨n, Nat.lt_succ_self _, q⟩, δ2, m3, ι3, S2.step s, M3, ?_⟩
          cases hb5 : fb δ2 m3 with
          | nx δ5 m5 => rw [hb5] at h2; exact fun σ' H6 ι' st Mr Sr => ⟨δ5, m5, ι', Sr, Mr, SRP.step (s.trans st) h2⟩
          | ct δ5 m5 => rw [hb5] at h2; exact fun σ' H6 ι' st Mr Sr => ⟨δ5, m5, ι', Sr, Mr, SRP.step (s.trans st) h2⟩
          | bk δ5 m5 => rw [hb5] at h2; exact fun σ' H6 ι' st Mr Sr => h2 σ' H6 ι' (s.trans st) Mr Sr
          | rt d m5 => rw [hb5] at h2; exact fun σ' H6 ι' st Mr Sr => h2 σ' H6 ι' (s.trans st) Mr Sr
          | ex x δ5 m5 => rw [hb5] at h2; exact fun c dd σ' H6 ι' st Mr Sr => h2 c dd σ' H6 ι' (s.trans st) Mr Sr
          | bad => rw [hb5] at h2; exact h2
end
end DL

set_option Elab.async false
set_option linter.all false
set_option maxRecDepth 100000
/-! The data layer, part i: comprehensions. -/
namespace DL
open PySem PySem.Spec PyProof.Rows L2

/-- no exception within a block -/
def WN : WX := fun _ _ _ _ => False
def ER.bindN {α β : Type} (r : ER α) (f : α → Mem → ER β) : ER β := match r with
  | .ok a m => f a m
  | _ => .bad
@[simp] theorem ER.bindN_ok {α β : Type} (a : α) (m : Mem) (f : α → Mem → ER β) : (ER.ok a m).bindN f = f a m := rfl
@[simp] theorem ER.bindN_ex {α β : Type} (x : P) (m : Mem) (f : α → Mem → ER β) : (ER.ex x m : ER α).bindN f = .bad := rfl
@[simp] theorem ER.bindN_bad {α β : Type} (f : α → Mem → ER β) : (ER.bad : ER α).bindN f = .bad := rfl
def wipeD (δ : DS) : List Nat → DS
  | [] => δ
  | v :: vs => (wipeD δ vs).set v .und
theorem SRel.wipe {G : Gx} {H : Hp} {ι : Io} {σ : L2.St} {δ : DS} (S : SRel G H ι σ δ) : ∀ vs : List Nat, SRel G H ι (wipe σ vs) (wipeD δ vs)
  | [] => S
  | v :: vs => by
    have ih := S.wipe vs
    refine ⟨by unfold L2.wipe wipeD; rw [List.length_set, List.length_set]; exact ih.len, fun i d h n => ?_⟩
    unfold wipeD at h
    unfold L2.wipe
    by_cases z : v = i
    · subst z
      have l : v < (wipeD δ vs).length := by have := (List.getElem?_eq_some_iff.mp h).1; simpa using this
      rw [List.getElem?_set_self l] at h
      cases h
      exact absurd rfl n
    · rw [List.getElem?_set_ne z] at h
      rw [List.getElem?_set_ne z]
      exact ih.at_ i d h n
theorem wipe_in {σ : L2.St} {i : Nat} : ∀ {vs : List Nat}, i ∈ vs → i < σ.length → (wipe σ vs)[i]? = some none
  | v :: vs, h, l => by
    unfold wipe
    by_cases z : v = i
    · subst z
      rw [List.getElem?_set_self (by rw [wipe_length]; exact l)]
    · rw [List.getElem?_set_ne z]
      exact wipe_in ((List.mem_cons.mp h).resolve_left fun e => z e.symm) l
theorem wipe_sto {σ σ' : L2.St} {is vs : List Nat} (h : Sto is σ σ') (hs : ∀ i ∈ is, i ∈ vs) : wipe σ' vs = wipe σ vs := by
  refine List.ext_getElem? fun i => ?_
  by_cases m : i ∈ vs
  · by_cases l : i < σ.length
    · rw [wipe_in m l, wipe_in m (by rw [h.len]; exact l)]
    · rw [List.getElem?_eq_none (by rw [wipe_length, h.len]; omega), List.getElem?_eq_none (by rw [wipe_length]; omega)]
  · rw [wipe_out m, wipe_out m, h.out i fun z => m (hs i z)]
theorem wipe_twice {σ : L2.St} {vs : List Nat} : wipe (wipe σ vs) vs = wipe σ vs := by
  refine List.ext_getElem? fun i => ?_
  by_cases m : i ∈ vs
  · by_cases l : i < σ.length
    · rw [wipe_in m l, wipe_in m (by rw [wipe_length]; exact l)]
    · rw [List.getElem?_eq_none (by rw [wipe_length, wipe_length]; omega), List.getElem?_eq_none (by rw [wipe_length]; omega)]
  · rw [wipe_out m]

/-- the state while a list grows at D -/
structure KC (G : Gx) (D : Addr) (ι1 : Io) (H1 : Hp) (ι : Io) (H : Hp) (m : Mem) (acc : List P) : Prop where
  hd : ι.hid = D :: ι1.hid
  st : Step ι1 H1 ⟨ι.at_, ι1.hid⟩ H
  mr : MRel G H ι m
  dd : ∃ vs, H D = some (.lst vs) ∧ RepL G H ι acc vs
section
variable {G : Gx} {D : Addr} {ι1 ι ι' : Io} {H1 H H' : Hp} {m m' : Mem} {acc : List P}
theorem Step.unhid {a b l : List Addr} {A B : List (Option Addr)} (s : Step ⟨A, a⟩ H ⟨B, b⟩ H') : Step ⟨A, l⟩ H ⟨B, l⟩ H' := ⟨s.len, s.pre, s.keep, s.new, s.tbl, rfl⟩
theorem KC.start (M : MRel G H1 ι1 m) (hD : H1 D = none) : KC G D ι1 H1 (ι1.hide D) (upd H1 D (.lst [])) m [] where
  hd := rfl
  st := .same (Same.upd hD)
  mr := by
    have s : Mv ι1 H1 (ι1.hide D) (upd H1 D (.lst [])) := .hide hD
    refine ⟨M.len, M.inj, fun i a e => ?_, M.gon, fun a e => ?_⟩
    · obtain ⟨o, q, ob⟩ := M.obj i a e
      obtain ⟨u, hu⟩ := ob.some_
      exact ⟨o, q, ob.toM s (upd_ne (ne_of_none hu hD))⟩
    · rcases List.mem_cons.mp e with e | e
      · subst e
        exact ⟨⟨_, upd_same⟩, (M.fresh hD).1⟩
      · obtain ⟨⟨u, hu⟩, n⟩ := M.hid a e
        exact ⟨⟨u, by rw [upd_ne (ne_of_none hu hD)]; exact hu⟩, n⟩
  dd := ⟨[], upd_same, .nil⟩
theorem KC.inh (k : KC G D ι1 H1 ι H m acc) : D ∈ ι.hid := by rw [k.hd]; exact List.mem_cons_self
theorem KC.step (k : KC G D ι1 H1 ι H m acc) (s : Step ι H ι' H') (M : MRel G H' ι' m') : KC G D ι1 H1 ι' H' m' acc where
  hd := s.hid.trans k.hd
  st := k.st.trans (Step.unhid (a := ι.hid) (b := ι'.hid) s)
  mr := M
  dd := by
    obtain ⟨vs, e, r⟩ := k.dd
    exact ⟨vs, s.keep D _ e (k.mr.hid D k.inh).2 (fun ps z => by cases z), r.step s⟩
theorem KC.push (k : KC G D ι1 H1 ι H m acc) {vs : List V} {y : P} {v : V} (hD : H1 D = none) (e : H D = some (.lst vs)) (r : RepL G H ι acc vs) (ry : Rep G H ι y v) : KC G D ι1 H1 ι (upd H D (.lst (vs ++ [v]))) m (acc ++ [y]) := by
  have mv : Mv ι H ι (upd H D (.lst (vs ++ [v]))) := .hidden k.inh
  have dn : some D ∉ ι.at_ := (k.mr.hid D k.inh).2
  refine ⟨k.hd, ?_, ?_, ⟨_, upd_same, (RepL.mv mv _ _ r).append (.one (Rep.mv mv _ _ ry))⟩⟩
  · refine ⟨k.st.len, k.st.pre, fun b o h n nt => ?_, k.st.new, fun b ps h => ?_, k.st.hid⟩
    · rw [upd_ne (ne_of_none h hD)]; exact k.st.keep b o h n nt
    · rw [upd_ne (ne_of_none h hD)]; exact k.st.tbl b ps h
  · refine ⟨k.mr.len, k.mr.inj, fun i a h => ?_, k.mr.gon, fun a h => ?_⟩
    · obtain ⟨o, q, ob⟩ := k.mr.obj i a h
      exact ⟨o, q, ob.toM mv (upd_ne fun z => dn (by rw [← z]; exact List.mem_of_getElem? h))⟩
    · obtain ⟨⟨u, hu⟩, n⟩ := k.mr.hid a h
      by_cases z : a = D
      · subst z; exact ⟨⟨_, upd_same⟩, n⟩
      · exact ⟨⟨u, by rw [upd_ne z]; exact hu⟩, n⟩
theorem KC.mv (k : KC G D ι1 H1 ι H m acc) (hD : H1 D = none) : Mv ι1 H1 ι H := by
  refine ⟨⟨fun a u h nt => ?_⟩, k.st.len, k.st.pre⟩
  obtain ⟨h1, h2⟩ := k.st.keepN h.1 h.2 nt
  refine ⟨h1, h2.1, fun z => ?_⟩
  rw [k.hd] at z
  rcases List.mem_cons.mp z with z | z
  · exact ne_of_none h.1 hD z
  · exact h2.2 z
/-- the list is done -/
theorem KC.fin (k : KC G D ι1 H1 ι H m acc) (M1 : ∃ m1, MRel G H1 ι1 m1) (hD : H1 D = none) : MRel G H ⟨ι.at_, ι1.hid⟩ m ∧ Rep G H ⟨ι.at_, ι1.hid⟩ (.lst acc) (.ref D) := by
  have mv : Mv ι H ⟨ι.at_, ι1.hid⟩ H := by
    obtain ⟨A, hh⟩ := ι
    have e : hh = D :: ι1.hid := k.hd
    subst e
    exact Mv.show_ (ι := ⟨A, []⟩)
  obtain ⟨m1, M1⟩ := M1
  refine ⟨⟨k.mr.len, k.mr.inj, fun i a h => ?_, k.mr.gon, fun a h => ?_⟩, ?_⟩
  · obtain ⟨o, q, ob⟩ := k.mr.obj i a h
    exact ⟨o, q, ob.toM mv rfl⟩
  · exact k.mr.hid a (by rw [k.hd]; exact List.mem_cons_of_mem _ h)
  · obtain ⟨vs, hd, r⟩ := k.dd
    simp only [Rep]
    refine ⟨D, vs, rfl, .inl ⟨hd, (k.mr.hid D k.inh).2, fun z => ?_⟩, RepL.mv mv _ _ r⟩
    obtain ⟨⟨u, hu⟩, _⟩ := M1.hid D z
    rw [hD] at hu; cases hu
end

/-! ### the tests -/
abbrev DBs (X : Cx) (W : WX) (es : List Expr) (f : FB) : Prop := PTs X es (tDB X W f)
def sYes : FB := fun _ m => .ok true m
theorem _root_.L2.PTs.conv {X : Cx} {es : List Expr} {t t' : TT} (h : PTs X es t) (k : ∀ σ H Q, t' σ H Q → t σ H Q) : PTs X es t' := ⟨fun pins s σ H Q I q => h.run pins s σ H Q I (k σ H Q q)⟩
theorem dbs_nil {X : Cx} {W : WX} : DBs X W [] sYes := pts_nil.conv fun σ H Q ⟨δ, m, ι, S, M, h⟩ => h true H ι (.refl _ _) M rfl
theorem dbs_one {X : Cx} {W : WX} {c : Expr} {g : FB} (h : DB X W c g) : DBs X W [c] g := pts_one h

/-! ### one clause -/
/-- the items told by the turns; δ: the names at a turn's start -/
def compL (g : FG) (ft : FB) (fe : DS → Mem → ER (List P)) (ok : Mem → Bool) (δ : DS) : List P → Mem → ER (List P)
  | [], m => if ok m = true then .ok [] m else .bad
  | x :: xs, m => if ok m = true then (match g (.p x) δ with
    | some δ1 => (ft δ1 m).bindN fun b m => if b = true then (fe δ1 m).bindN fun ys m => (compL g ft fe ok δ xs m).bindN fun zs m => .ok (ys ++ zs) m else compL g ft fe ok δ xs m
    | none => .bad) else .bad
/-- one element -/
def elt (fe : FE) : DS → Mem → ER (List P) := fun δ m => (fe δ m).bindN fun d m => match d with
  | .p y => .ok [y] m
  | _ => .bad
def mkL (xs : List P) (m : Mem) : ER D := if xs.length ≤ 16777216 then .ok (.p (.lst xs)) m else .bad
def sLc (fi : FI) (g : FG) (ft : FB) (fe : FE) (vs : List Nat) : FE := fun δ m => (fi δ m).bind fun it m => (compL g ft (elt fe) it.ok (wipeD δ vs) it.items m).bindN mkL
theorem ERP.okOf {G : Gx} {W : WX} {σ : L2.St} {ι : Io} {H : Hp} {α γ ε : Type} {rel' : Hp → Io → γ → ε → Prop} {r : ER α} {g : α → Mem → ER γ} {Q : ε → Hp → Prop} (h : ERP G W σ ι H rel' (r.bindN g) Q) :
    ∃ a m, r = .ok a m ∧ ERP G W σ ι H rel' (g a m) Q := by
  cases r with
  | ok a m => exact ⟨a, m, rfl, h⟩
  | ex x m => exact h.elim
  | bad => exact h.elim
theorem bindN_ok {α β : Type} {r : ER α} {g : α → Mem → ER β} {b : β} {m : Mem} (h : r.bindN g = .ok b m) : ∃ a m1, r = .ok a m1 ∧ g a m1 = .ok b m := by
  cases r with
  | ok a m1 => exact ⟨a, m1, rfl, h⟩
  | ex x m1 => cases h
  | bad => cases h
section
variable {X : Cx} {W : WX} {tg iter ee : Expr} {ifs : List Expr} {fi : FI} {g : FG} {is : List Nat} {ft : FB} {fe : FE} {pos : Pos} {scope : Scope} {own : List (Str × Nat)}
/-- what is left of a block, as one wants it -/
def Rest (r : ER (List P)) (n : Nat) (ys : List P) (m : Mem) : Prop := r = .ok ys m ∧ n + ys.length ≤ 16777216
theorem lc_conv {tz : Bool} (hs : ∀ i ∈ is, i ∈ own.map (·.2)) (σ : L2.St) (H : Hp) (Q : VK) (h : tD X W (sLc fi g ft fe (own.map (·.2))) σ H Q) :
    tLc (tDI X W tz fi) (tDG X tz g is) (tDB X WN ft) (tD X WN fe) (own.map (·.2)) σ H Q := by
  obtain ⟨δ, m, ι, S, M, h⟩ := h
  refine ⟨δ, m, ι, S, M, h.seq fun it m1 J H1 ι1 _ s1 M1 R1 h1 D hD => ?_⟩
  have S1 := S.step s1
  obtain ⟨zs, mz, ez, h2⟩ := ERP.okOf h1
  unfold mkL at h2
  split at h2
  case isFalse => exact h2.elim
  rename_i hlen
  refine ⟨fun i k H => k = it.items.length - i ∧ i ≤ it.items.length ∧ ∃ m ι acc ys, KC (gx X) D ι1 H1 ι H m acc ∧ compL g ft (elt fe) it.ok (wipeD δ (own.map (·.2))) (it.items.drop i) m = .ok ys mz ∧ acc ++ ys = zs,
    ⟨_, rfl, Nat.zero_le _, m1, ι1.hide D, [], zs, .start M1 hD, ez, rfl⟩, ?_⟩
  rintro i k H2 ⟨rfl, hi, m2, ι2, acc, ys, kc, e2, ea⟩
  have S2 : SRel (gx X) H2 ι2 σ δ := S1.mv (kc.mv hD)
  by_cases hlt : i < it.items.length
  · right
    rw [List.drop_eq_getElem_cons hlt] at e2
    unfold compL at e2
    split at e2
    case isFalse => cases e2
    rename_i ok
    obtain ⟨go, _⟩ := R1 ι2 H2 m2 (kc.mv hD) kc.mr ok
    obtain ⟨go, yl⟩ := go i it.items[i] (List.getElem?_eq_getElem hlt)
    refine ⟨go, fun H' => ∃ m ι acc ys, KC (gx X) D ι1 H1 ι H' m acc ∧ compL g ft (elt fe) it.ok (wipeD δ (own.map (·.2))) (it.items.drop (i + 1)) m = .ok ys mz ∧ acc ++ ys = zs, fun H' hn => ⟨it.items.length - (i + 1), by omega, rfl, hlt, hn⟩, fun v H' y => ?_⟩
    obtain ⟨sm, rv⟩ := yl v H' y
    split at e2
    · rename_i δ3 hg3
      have kc3 := kc.step (.same sm) (kc.mr.same sm)
      refine ⟨wipeD δ (own.map (·.2)), ι2, .p it.items[i], δ3, (S2.step (.same sm)).wipe _, .inr ⟨_, rfl, rv⟩, hg3, fun σ4 S4 t4 => ⟨(wipe_sto t4 hs).trans wipe_twice, ?_⟩⟩
      obtain ⟨b, m3, eb, e3⟩ := bindN_ok e2
      refine ⟨δ3, m2, ι2, S4, kc3.mr, ?_⟩
      rw [eb]
      rintro b' H4 ι4 s4 M4 rfl
      have kc4 := kc3.step s4 M4
      cases b with
      | false =>
        rw [if_neg (by decide)] at e3 ⊢
        exact ⟨m3, ι4, acc, ys, kc4, e3, ea⟩
      | true =>
        rw [if_pos rfl] at e3 ⊢
        obtain ⟨us, m4, eu, e4⟩ := bindN_ok e3
        obtain ⟨ws, m5, ew, e5⟩ := bindN_ok e4
        cases e5
        unfold elt at eu
        obtain ⟨d, m6, ed, e6⟩ := bindN_ok eu
        refine ⟨δ3, m3, ι4, S4.step s4, M4, ?_⟩
        rw [ed]
        intro v' H5 ι5 s5 M5 r5
        have kc5 := kc4.step s5 M5
        cases d with
        | p y =>
          cases e6
          obtain ⟨vs, hd, r⟩ := kc5.dd
          refine ⟨vs, hd, ?_, _, ι5, acc ++ [y], ws, kc5.push hD hd r r5, ew, by rw [← ea]; simp⟩
          have : acc.length + (([y] ++ ws)).length ≤ 16777216 := by rw [← List.length_append, ea]; exact hlen
          rw [sizeLine_eq, ← r.length]
          simp at this
          omega
        | ref j => cases e6
        | und => cases e6
    · cases e2
  · left
    have ei : i = it.items.length := by omega
    subst ei
    rw [List.drop_length] at e2
    unfold compL at e2
    split at e2
    · rename_i ok
      cases e2
      rw [List.append_nil] at ea
      subst ea
      obtain ⟨MF, RF⟩ := kc.fin ⟨m1, M1⟩ hD
      exact ⟨(R1 ι2 H2 _ (kc.mv hD) kc.mr ok).2, h2 _ H2 ⟨ι2.at_, ι1.hid⟩ kc.st MF RF⟩
    · cases e2
theorem de_lc (hc : X.calm = true) (hN : X.N.Nodup) (hi : DI X W tg iter fi) (ok : BlkOk X.N X.env.scope scope own)
    (hg : ∀ (s : Shared) (H : Hp) (C : Addr) (cl : List (Str × Addr)) (fp : List Addr), DG (X.blk s H scope (compEnvC scope cl C X.env) fp) tg g is) (ht : ∀ (s : Shared) (H : Hp) (C : Addr) (cl : List (Str × Addr)) (fp : List Addr), DBs (X.blk s H scope (compEnvC scope cl C X.env) fp) WN ifs ft)
    (he : ∀ (s : Shared) (H : Hp) (C : Addr) (cl : List (Str × Addr)) (fp : List Addr), DE (X.blk s H scope (compEnvC scope cl C X.env) fp) WN ee fe) (hs : ∀ i ∈ is, i ∈ own.map (·.2) := by decide) (hf : ∀ x, foldedSetIterable iter X.env x = pure x := by intro _; rfl) :
    DE X W (.ListComp ee [⟨tg, iter, ifs, 0⟩] scope pos) (sLc fi g ft fe (own.map (·.2))) :=
  (pe_lc (wi := tDI X W (isTT tg) fi) (g := tDG X (isTT tg) g is) (tt := tDB X WN ft) (te := tD X WN fe) hc hN hi ok hg ht he hf).conv fun σ H Q h => lc_conv hs σ H Q h
def sAsgN (fa : FE) (i : Nat) : FS := fun δ m => thenS (fa δ m) δ fun d m => match gN i d δ with
  | some δ' => .nx δ' m
  | none => .bad
theorem asgN_conv {fa : FE} {i : Nat} {E : Ends} {σ : L2.St} {H : Hp} (h : tDS X W (sAsgN fa i) E σ H) : tD X W fa σ H fun x H1 => gName i x σ H1 E.nx := by
  obtain ⟨δ, m, ι, S, M, h⟩ := h
  refine ⟨δ, m, ι, S, M, ?_⟩
  refine SRP.then S h fun d m1 v H1 ι1 _ s1 M1 r1 S1 h1 => ?_
  cases q : gN i d δ with
  | none => rw [q] at h1; exact h1.elim
  | some δ' =>
    rw [q] at h1
    unfold gN at q
    have key : (if i < δ.length then some (δ.set i d) else none) = some δ' := by cases d <;> first | exact q | cases q
    split at key
    · cases key
      exact h1 _ H1 ι1 (.refl _ _) M1 (S1.set r1 i)
    · cases key
theorem dt_setLc {i : Nat} {y : Str} {py spos : Pos} (hc : X.calm = true) (hN : X.N.Nodup) (hsw : swapsWith (.ListComp ee [⟨tg, iter, ifs, 0⟩] scope pos) (some (.Name y py)) spos.line X.env = pure true) (hi : DI X W tg iter fi) (ok : BlkOk X.N X.env.scope scope own)
    (hg : ∀ (s : Shared) (H : Hp) (C : Addr) (cl : List (Str × Addr)) (fp : List Addr), DG (X.blk s H scope (compEnvC scope cl C X.env) fp) tg g is) (ht : ∀ (s : Shared) (H : Hp) (C : Addr) (cl : List (Str × Addr)) (fp : List Addr), DBs (X.blk s H scope (compEnvC scope cl C X.env) fp) WN ifs ft)
    (he : ∀ (s : Shared) (H : Hp) (C : Addr) (cl : List (Str × Addr)) (fp : List Addr), DE (X.blk s H scope (compEnvC scope cl C X.env) fp) WN ee fe) (hs : ∀ i ∈ is, i ∈ own.map (·.2) := by decide) (hy : X.N[i]? = some y := by rfl) (hyl : X.env.scope.names.lookup y = some .local := by rfl) (hf : ∀ x, foldedSetIterable iter X.env x = pure x := by intro _; rfl) :
    DT X W (.Assign [.Name y py] (.ListComp ee [⟨tg, iter, ifs, 0⟩] scope pos) spos) (sAsgN (sLc fi g ft fe (own.map (·.2))) i) :=
  (ps_setLc (wi := tDI X W (isTT tg) fi) (g := tDG X (isTT tg) g is) (tt := tDB X WN ft) (te := tD X WN fe) hc hN hy hyl hsw hi ok hg ht he hf).conv fun E σ H h => lc_conv hs σ H _ (asgN_conv h)
end

/-! ### two clauses -/
section
variable {X : Cx} {W : WX} {tg iter tg1 iter1 ee : Expr} {ifs ifs1 : List Expr} {fi fi1 : FI} {g g1 : FG} {is is1 : List Nat} {ft ft1 : FB} {fe : FE} {pos : Pos} {scope : Scope} {own : List (Str × Nat)} {vs1 : List Nat}
/-- a turn's own walk -/
def inner (fi1 : FI) (g1 : FG) (ft1 : FB) (fe : FE) (vs1 : List Nat) : DS → Mem → ER (List P) := fun δ m => (fi1 δ m).bindN fun it m => compL g1 ft1 (elt fe) it.ok (wipeD δ vs1) it.items m
def sLc2 (fi : FI) (g : FG) (ft : FB) (fi1 : FI) (g1 : FG) (ft1 : FB) (fe : FE) (vs vs1 : List Nat) : FE := fun δ m => (fi δ m).bind fun it m => (compL g ft (inner fi1 g1 ft1 fe vs1) it.ok (wipeD δ vs) it.items m).bindN mkL
theorem lc2_conv {tz tz1 : Bool} (hs : ∀ i ∈ is, i ∈ own.map (·.2)) (hs1 : ∀ i ∈ is1, i ∈ vs1) (σ : L2.St) (H : Hp) (Q : VK) (h : tD X W (sLc2 fi g ft fi1 g1 ft1 fe (own.map (·.2)) vs1) σ H Q) :
    tLc2 (tDI X W tz fi) (tDG X tz g is) (tDB X WN ft) (tDI X WN tz1 fi1) (tDG X tz1 g1 is1) (tDB X WN ft1) (tD X WN fe) (own.map (·.2)) vs1 σ H Q := by
  obtain ⟨δ, m, ι, S, M, h⟩ := h
  refine ⟨δ, m, ι, S, M, h.seq fun it m1 J H1 ι1 _ s1 M1 R1 h1 D hD => ?_⟩
  have S1 := S.step s1
  obtain ⟨zs, mz, ez, h2⟩ := ERP.okOf h1
  unfold mkL at h2
  split at h2
  case isFalse => exact h2.elim
  rename_i hlen
  refine ⟨fun i k H => k = it.items.length - i ∧ i ≤ it.items.length ∧ ∃ m ι acc ys, KC (gx X) D ι1 H1 ι H m acc ∧ compL g ft (inner fi1 g1 ft1 fe vs1) it.ok (wipeD δ (own.map (·.2))) (it.items.drop i) m = .ok ys mz ∧ acc ++ ys = zs,
    ⟨_, rfl, Nat.zero_le _, m1, ι1.hide D, [], zs, .start M1 hD, ez, rfl⟩, ?_⟩
  rintro i k H2 ⟨rfl, hi, m2, ι2, acc, ys, kc, e2, ea⟩
  have S2 : SRel (gx X) H2 ι2 σ δ := S1.mv (kc.mv hD)
  by_cases hlt : i < it.items.length
  · right
    rw [List.drop_eq_getElem_cons hlt] at e2
    unfold compL at e2
    split at e2
    case isFalse => cases e2
    rename_i ok
    obtain ⟨go, _⟩ := R1 ι2 H2 m2 (kc.mv hD) kc.mr ok
    obtain ⟨go, yl⟩ := go i it.items[i] (List.getElem?_eq_getElem hlt)
    refine ⟨go, fun H' => ∃ m ι acc ys, KC (gx X) D ι1 H1 ι H' m acc ∧ compL g ft (inner fi1 g1 ft1 fe vs1) it.ok (wipeD δ (own.map (·.2))) (it.items.drop (i + 1)) m = .ok ys mz ∧ acc ++ ys = zs, fun H' hn => ⟨it.items.length - (i + 1), by omega, rfl, hlt, hn⟩, fun v H' y => ?_⟩
    obtain ⟨sm, rv⟩ := yl v H' y
    split at e2
    · rename_i δ3 hg3
      have kc3 := kc.step (.same sm) (kc.mr.same sm)
      refine ⟨wipeD δ (own.map (·.2)), ι2, .p it.items[i], δ3, (S2.step (.same sm)).wipe _, .inr ⟨_, rfl, rv⟩, hg3, fun σ4 S4 t4 => ⟨(wipe_sto t4 hs).trans wipe_twice, ?_⟩⟩
      obtain ⟨b, m3, eb, e3⟩ := bindN_ok e2
      refine ⟨δ3, m2, ι2, S4, kc3.mr, ?_⟩
      rw [eb]
      rintro b' H4 ι4 s4 M4 rfl
      have kc4 := kc3.step s4 M4
      cases b with
      | false =>
        rw [if_neg (by decide)] at e3 ⊢
        exact ⟨m3, ι4, acc, ys, kc4, e3, ea⟩
      | true =>
        rw [if_pos rfl] at e3 ⊢
        obtain ⟨us, m4, eu, e4⟩ := bindN_ok e3
        obtain ⟨ws, m5, ew, e5⟩ := bindN_ok e4
        cases e5
        unfold inner at eu
        obtain ⟨it1, m6, ei6, eu⟩ := bindN_ok eu
        have S44 := S4.step s4
        refine ⟨δ3, m3, ι4, S44, M4, ?_⟩
        rw [ei6]
        intro J1 H6 ι6 s6 M6 R6
        have kc6 := kc4.step s6 M6
        have S6 := S44.step s6
        refine ⟨fun j k H => k = it1.items.length - j ∧ j ≤ it1.items.length ∧ ∃ m ι ac us', KC (gx X) D ι1 H1 ι H m ac ∧ Mv ι6 H6 ι H ∧ compL g1 ft1 (elt fe) it1.ok (wipeD δ3 vs1) (it1.items.drop j) m = .ok us' m4 ∧ ac ++ us' ++ ws = zs,
          ⟨_, rfl, Nat.zero_le _, m6, ι6, acc, us, kc6, .refl _ _, eu, by rw [List.append_assoc]; exact ea⟩, ?_⟩
        rintro j k H7 ⟨rfl, hj, m7, ι7, ac7, us7, kc7, mv7, e7, ea7⟩
        by_cases hlt1 : j < it1.items.length
        · right
          rw [List.drop_eq_getElem_cons hlt1] at e7
          unfold compL at e7
          split at e7
          case isFalse => cases e7
          rename_i ok1
          obtain ⟨go1, _⟩ := R6 ι7 H7 m7 mv7 kc7.mr ok1
          obtain ⟨go1, yl1⟩ := go1 j it1.items[j] (List.getElem?_eq_getElem hlt1)
          refine ⟨go1, fun H' => ∃ m ι ac us', KC (gx X) D ι1 H1 ι H' m ac ∧ Mv ι6 H6 ι H' ∧ compL g1 ft1 (elt fe) it1.ok (wipeD δ3 vs1) (it1.items.drop (j + 1)) m = .ok us' m4 ∧ ac ++ us' ++ ws = zs, fun H' hn => ⟨it1.items.length - (j + 1), by omega, rfl, hlt1, hn⟩, fun v8 H8 y8 => ?_⟩
          obtain ⟨sm8, rv8⟩ := yl1 v8 H8 y8
          split at e7
          · rename_i δ9 hg9
            have kc8 := kc7.step (.same sm8) (kc7.mr.same sm8)
            refine ⟨wipeD δ3 vs1, ι7, .p it1.items[j], δ9, ((S6.mv mv7).step (.same sm8)).wipe _, .inr ⟨_, rfl, rv8⟩, hg9, fun σ9 S9 t9 => ⟨(wipe_sto t9 hs1).trans wipe_twice, ?_⟩⟩
            obtain ⟨b9, m9, eb9, e9⟩ := bindN_ok e7
            refine ⟨δ9, m7, ι7, S9, kc8.mr, ?_⟩
            rw [eb9]
            rintro b' H10 ι10 s10 M10 rfl
            have kc10 := kc8.step s10 M10
            have mv10 : Mv ι6 H6 ι10 H10 := mv7.trans ((Step.same sm8).mv.trans s10.mv)
            cases b9 with
            | false =>
              rw [if_neg (by decide)] at e9 ⊢
              exact ⟨m9, ι10, ac7, us7, kc10, mv10, e9, ea7⟩
            | true =>
              rw [if_pos rfl] at e9 ⊢
              obtain ⟨p9, m11, ep, e11⟩ := bindN_ok e9
              obtain ⟨q9, m12, eq, e12⟩ := bindN_ok e11
              cases e12
              unfold elt at ep
              obtain ⟨d, m13, ed, e13⟩ := bindN_ok ep
              refine ⟨δ9, m9, ι10, S9.step s10, M10, ?_⟩
              rw [ed]
              intro v' H5 ι5 s5 M5 r5
              have kc5 := kc10.step s5 M5
              cases d with
              | p y =>
                cases e13
                obtain ⟨vs, hd, r⟩ := kc5.dd
                refine ⟨vs, hd, ?_, _, ι5, ac7 ++ [y], q9, kc5.push hD hd r r5, mv10.trans (s5.mv.trans (.hidden kc5.inh)), eq, by rw [← ea7]; simp⟩
                have : (ac7 ++ ([y] ++ q9) ++ ws).length ≤ 16777216 := by rw [ea7]; exact hlen
                rw [sizeLine_eq, ← r.length]
                simp at this
                omega
              | ref j => cases e13
              | und => cases e13
          · cases e7
        · left
          have ei : j = it1.items.length := by omega
          subst ei
          rw [List.drop_length] at e7
          unfold compL at e7
          split at e7
          · rename_i ok1
            cases e7
            rw [List.append_nil] at ea7
            exact ⟨(R6 ι7 H7 _ mv7 kc7.mr ok1).2, _, ι7, ac7, ws, kc7, ew, ea7⟩
          · cases e7
    · cases e2
  · left
    have ei : i = it.items.length := by omega
    subst ei
    rw [List.drop_length] at e2
    unfold compL at e2
    split at e2
    · rename_i ok
      cases e2
      rw [List.append_nil] at ea
      subst ea
      obtain ⟨MF, RF⟩ := kc.fin ⟨m1, M1⟩ hD
      exact ⟨(R1 ι2 H2 _ (kc.mv hD) kc.mr ok).2, h2 _ H2 ⟨ι2.at_, ι1.hid⟩ kc.st MF RF⟩
    · cases e2
theorem de_lc2 (hc : X.calm = true) (hN : X.N.Nodup) (hi : DI X W tg iter fi) (ok : BlkOk X.N X.env.scope scope own)
    (hg : ∀ (s : Shared) (H : Hp) (C : Addr) (cl : List (Str × Addr)) (fp : List Addr), DG (X.blk s H scope (compEnvC scope cl C X.env) fp) tg g is) (ht : ∀ (s : Shared) (H : Hp) (C : Addr) (cl : List (Str × Addr)) (fp : List Addr), DBs (X.blk s H scope (compEnvC scope cl C X.env) fp) WN ifs ft)
    (hi1 : ∀ (s : Shared) (H : Hp) (C : Addr) (cl : List (Str × Addr)) (fp : List Addr), DI (X.blk s H scope (compEnvC scope cl C X.env) fp) WN tg1 iter1 fi1)
    (hg1 : ∀ (s : Shared) (H : Hp) (C : Addr) (cl : List (Str × Addr)) (fp : List Addr), DG (X.blk s H scope (compEnvC scope cl C X.env) fp) tg1 g1 is1) (ht1 : ∀ (s : Shared) (H : Hp) (C : Addr) (cl : List (Str × Addr)) (fp : List Addr), DBs (X.blk s H scope (compEnvC scope cl C X.env) fp) WN ifs1 ft1)
    (he : ∀ (s : Shared) (H : Hp) (C : Addr) (cl : List (Str × Addr)) (fp : List Addr), DE (X.blk s H scope (compEnvC scope cl C X.env) fp) WN ee fe) (hv : ∀ i ∈ vs1, i ∈ own.map (·.2) := by decide) (hs : ∀ i ∈ is, i ∈ own.map (·.2) := by decide) (hs1 : ∀ i ∈ is1, i ∈ vs1 := by decide)
    (hf : ∀ x, foldedSetIterable iter X.env x = pure x := by intro _; rfl) (hf1 : ∀ env x, foldedSetIterable iter1 env x = pure x := by intro _ _; rfl) :
    DE X W (.ListComp ee [⟨tg, iter, ifs, 0⟩, ⟨tg1, iter1, ifs1, 0⟩] scope pos) (sLc2 fi g ft fi1 g1 ft1 fe (own.map (·.2)) vs1) :=
  (pe_lc2 (wi := tDI X W (isTT tg) fi) (g := tDG X (isTT tg) g is) (tt := tDB X WN ft) (te := tD X WN fe) (wi1 := tDI X WN (isTT tg1) fi1) (g1 := tDG X (isTT tg1) g1 is1) (tt1 := tDB X WN ft1) hc hN hi ok hv hg ht hi1 hg1 ht1 he hf hf1).conv fun σ H Q h => lc2_conv hs hs1 σ H Q h
end
end DL

set_option Elab.async false
set_option linter.all false
set_option maxRecDepth 100000
/-! The data layer, part j: what is written; statements. -/
namespace DL
open PySem PySem.Spec PyProof.Rows L2

/-! ### an object of ours is written -/
section
variable {G : Gx} {ι : Io} {H : Hp} {m : Mem} {i : Nat} {a : Addr} {u0 u : HO} {o : MO}
theorem Step.put (hi : ι.at_[i]? = some (some a)) (h : H a = some u0) (nt : NoTbl u0) : Step ι H ι (upd H a u) where
  len := Nat.le_refl _
  pre := fun j q e l => .inl e
  keep := fun b q e n _ => by rw [upd_ne (fun z => n (by rw [z]; exact List.mem_of_getElem? hi))]; exact e
  new := fun b e n => absurd e n
  tbl := fun b ps e => ⟨#[], by rw [upd_ne (fun z => by rw [z, h] at e; cases e; exact nt _ rfl), e]; simp⟩
  hid := rfl
theorem MRel.put (M : MRel G H ι m) (hi : ι.at_[i]? = some (some a)) (h : H a = some u0) (nt : NoTbl u0) (ob : MObj G (upd H a u) ι a o) : MRel G (upd H a u) ι (m.set i (some o)) where
  len := by rw [List.length_set]; exact M.len
  inj := M.inj
  obj := fun j b e => by
    by_cases z : i = j
    · subst z
      rw [hi] at e
      cases e
      have l : i < m.length := by rw [← M.len]; exact (List.getElem?_eq_some_iff.mp hi).1
      exact ⟨o, by rw [List.getElem?_set_self l], ob⟩
    · obtain ⟨o', q, ob'⟩ := M.obj j b e
      exact ⟨o', by rw [List.getElem?_set_ne z]; exact q, ob'.to (.put hi h nt) (upd_ne fun w => z (M.inj i j a hi (by rw [← w]; exact e)))⟩
  gon := fun j e => by
    have z : i ≠ j := fun z => by rw [z] at hi; rw [hi] at e; cases e
    rw [List.getElem?_set_ne z]
    exact M.gon j e
  hid := fun b e => by
    obtain ⟨⟨v, hv⟩, n⟩ := M.hid b e
    have hb : b ≠ a := fun z => n (by rw [z]; exact List.mem_of_getElem? hi)
    exact ⟨⟨v, by rw [upd_ne hb]; exact hv⟩, n⟩
end
/-- an entry is put -/
def putA {κ α : Type} [DecidableEq κ] (ks : List κ) (xs : List α) (k : κ) (v : α) : List α := if (ks.any fun j => decide (j = k)) = true then List.zipWith (fun j x => if j = k then v else x) ks xs else xs ++ [v]
def putJ {κ : Type} [DecidableEq κ] (ks : List κ) (k : κ) : List κ := if (ks.any fun j => decide (j = k)) = true then ks else ks ++ [k]
theorem rep_zipWith {G : Gx} {H : Hp} {ι : Io} {κ : Type} [DecidableEq κ] {k : κ} {y : P} {v : V} (ry : Rep G H ι y v) : ∀ {ks : List κ} {xs : List P} {vs : List V}, RepL G H ι xs vs → RepL G H ι (List.zipWith (fun j x => if j = k then y else x) ks xs) (List.zipWith (fun j x => if j = k then v else x) ks vs)
  | [], xs, vs, r => by simp [RepL]
  | j :: ks, [], vs, r => by simp only [RepL] at r; subst r; simp [RepL]
  | j :: ks, x :: xs, vs, r => by
    simp only [RepL] at r
    obtain ⟨w, t, e, r1, r2⟩ := r
    subst e
    rw [List.zipWith_cons_cons, List.zipWith_cons_cons]
    refine .cons ?_ (rep_zipWith ry r2)
    by_cases z : j = k
    · rw [if_pos z, if_pos z]; exact ry
    · rw [if_neg z, if_neg z]; exact r1
theorem RepL.putA {G : Gx} {H : Hp} {ι : Io} {κ : Type} [DecidableEq κ] {k : κ} {y : P} {v : V} {ks : List κ} {xs : List P} {vs : List V} (r : RepL G H ι xs vs) (ry : Rep G H ι y v) : RepL G H ι (putA ks xs k y) (putA ks vs k v) := by
  unfold DL.putA
  split
  · exact rep_zipWith ry r
  · exact r.append (.one ry)
theorem putA_len {κ α : Type} [DecidableEq κ] {ks : List κ} {xs : List α} {k : κ} {v : α} (h : ks.length = xs.length) : (putJ ks k).length = (putA ks xs k v).length := by
  unfold putJ putA
  split
  · rw [List.length_zipWith, h, Nat.min_self]
  · simp [h]
theorem putK_zip {κ : Type} [DecidableEq κ] {ks : List κ} {vs : List V} {k : κ} {v : V} (h : ks.length = vs.length) : putK (ks.zip vs) k v = (putJ ks k).zip (putA ks vs k v) := by
  have ea : ((ks.zip vs).any fun kv => decide (kv.1 = k)) = ks.any fun j => decide (j = k) := by
    clear v
    induction ks generalizing vs with
    | nil => simp
    | cons j ks ih =>
      cases vs with
      | nil => simp at h
      | cons w vs => simp only [List.zip_cons_cons, List.any_cons]; rw [ih (by simpa using h)]
  unfold putK putJ putA
  rw [ea]
  split
  · clear ea
    rename_i q
    clear q
    induction ks generalizing vs with
    | nil => simp
    | cons j ks ih =>
      cases vs with
      | nil => simp at h
      | cons w vs =>
        simp only [List.zip_cons_cons, List.map_cons, List.zipWith_cons_cons]
        rw [ih (by simpa using h)]
        by_cases z : j = k
        · rw [if_pos z, if_pos z]
        · rw [if_neg z, if_neg z]
  · rw [List.zip_append (by exact h)]
    rfl

/-! ### o[k] = v -/
def setO (o : MO) (k v : P) : Option MO := match o with
  | .lst xs => (match k with
    | .int j => (ixN xs.length j).map fun n => .lst (xs.set n v)
    | _ => none)
  | .dK ks xs => (match k.ky with
    | some j => if ks.length < 16777216 then some (.dK (putJ ks j) (putA ks xs j v)) else none
    | none => none)
  | .dT ks xs => (match k with
    | .tup as => if (P.tup as).keyD = true ∧ ks.length < 16777216 then some (.dT (if ((P.nkL ks).any fun j => decide (j = (P.tup as).nk)) = true then ks else ks ++ [.tup as]) (putA (P.nkL ks) xs (P.tup as).nk v)) else none
    | _ => none)
  | .ins _ _ _ => none
def setM (o k v : D) (m : Mem) : Option Mem := match o, k, v with
  | .ref i, .p k, .p v => (match m[i]? with
    | some (some o) => (setO o k v).map fun o' => m.set i (some o')
    | _ => none)
  | _, _, _ => none
theorem nkL_len : ∀ ks : List P, (P.nkL ks).length = ks.length
  | [] => rfl
  | k :: ks => by rw [P.nkL, List.length_cons, List.length_cons, nkL_len ks]
theorem nkL_append (ks : List P) (k : P) : P.nkL (ks ++ [k]) = P.nkL ks ++ [k.nk] := by
  induction ks with
  | nil => rfl
  | cons j ks ih => rw [List.cons_append, P.nkL, P.nkL, ih]; rfl
theorem keyedL_append (ks : List P) (k : P) : P.keyedL (ks ++ [k]) = (P.keyedL ks && k.keyed) := by
  induction ks with
  | nil => simp [P.keyedL]
  | cons j ks ih => rw [List.cons_append, P.keyedL, P.keyedL, ih, Bool.and_assoc]
theorem atKey_any {k : NestedKey} : ∀ {ys : List (NestedKey × Addr × Value)}, (atKey ys k).isSome = (ys.map (·.1)).any fun j => decide (j = k)
  | [] => by simp [atKey]
  | y :: ys => by
    by_cases h : y.1 = k
    · simp [atKey, h]
    · have e : atKey (y :: ys) k = atKey ys k := by simp [atKey, h]
      rw [e, atKey_any]
      simp [h]
theorem vals_put {k : NestedKey} {v : V} {u : Value} (rv : RelV v u) : ∀ {ys : List (NestedKey × Addr × Value)} {vs : List V}, Vals vs (ys.map fun y => y.2.2) →
    Vals (List.zipWith (fun j x => if j = k then v else x) (ys.map (·.1)) vs) (ys.map ((fun y => y.2.2) ∘ putAt k u))
  | [], vs, w => by cases w; exact .nil
  | y :: ys, vs, w => by
    rw [List.map_cons] at w
    cases w with
    | cons w1 w2 =>
      rw [List.map_cons, List.map_cons, List.zipWith_cons_cons]
      refine .cons ?_ (vals_put rv w2)
      by_cases z : y.1 = k
      · rw [if_pos z]
        have e : (putAt k u y).2.2 = u := by unfold putAt; rw [if_pos z]
        show RelV v (putAt k u y).2.2
        rw [e]; exact rv
      · rw [if_neg z]
        have e : (putAt k u y) = y := by unfold putAt; rw [if_neg z]
        show RelV _ (putAt k u y).2.2
        rw [e]; exact w1
section
variable {X : Cx}
def rSetM (X : Cx) : TSet := fun o k v H Q => ∃ ι m d e f m', MRel (gx X) H ι m ∧ RepD (gx X) H ι d o ∧ RepD (gx X) H ι e k ∧ RepD (gx X) H ι f v ∧ setM d e f m = some m' ∧ ∀ H' ι', Step ι H ι' H' → MRel (gx X) H' ι' m' → Q H'
theorem set_all (hu : X.A.units + 110 < cLine) : PSet X (rSetM X) := by
  intro pins s σ H o k v ov kv u Q I ro rk rv h
  obtain ⟨ι, m, d, e, f, m', M, rd, re, rf, es, q⟩ := h
  unfold setM at es
  split at es
  · rename_i i x y
    split at es
    · rename_i o' hm
      obtain ⟨o2, e2, e3⟩ := Option.map_eq_some_iff.mp es
      subst e3
      obtain ⟨a, ea, qa⟩ := rd
      obtain ⟨hi, ob⟩ := M.live hm qa
      subst ea
      unfold setO at e2
      split at e2
      · rename_i xs
        obtain ⟨vs, hH, r⟩ := ob
        split at e2
        · rename_i j
          obtain ⟨n, e4, e5⟩ := Option.map_eq_some_iff.mp e2
          subst e5
          simp only [RepD, Rep] at re
          refine set_list pins s σ H (.ref a) k v ov kv u Q I ro rk rv ⟨a, vs, j, n, rfl, re, hH, by rw [← r.length]; exact e4, ?_⟩
          have st : Step ι H ι (upd H a (.lst (vs.set n v))) := .put hi hH (fun ps z => by cases z)
          exact q _ _ st (M.put hi hH (fun ps z => by cases z) ⟨_, upd_same, (RepL.step st _ _ r).set (Rep.step st _ _ rf) n⟩)
        · cases e2
      · rename_i ks xs
        obtain ⟨vs, hH, hl, r⟩ := ob
        split at e2
        · rename_i j hj
          split at e2
          · rename_i hz
            cases e2
            have ek : k = kV j := ky_rep hj (Rep.rn re)
            cases ro
            have hl2 : ks.length = vs.length := hl.trans r.length
            refine d_setItem (y := k) (v := v) (A := X.A) (E := X.xe) (by omega) I (.inl ⟨ks.zip vs, j, hH, ek, by rw [List.length_zip, ← hl2, Nat.min_self, sizeLine_eq]; exact hz, rfl⟩) rk rv fun s' I' => ⟨_, I', ?_⟩
            rw [putK_zip hl2]
            have st : Step ι H ι (upd H a (.dK ((putJ ks j).zip (putA ks vs j v)))) := .put hi hH (fun ps z => by cases z)
            exact q _ _ st (M.put hi hH (fun ps z => by cases z) ⟨_, upd_same, putA_len hl, (RepL.step st _ _ r).putA (Rep.step st _ _ rf)⟩)
          · cases e2
        · cases e2
      · rename_i ks xs
        obtain ⟨o, ys, vs, hH, t, e1, e4, r1, w, r2⟩ := ob
        split at e2
        · rename_i as
          split at e2
          · rename_i hc
            cases e2
            obtain ⟨k1, k2⟩ := keyD_of hc.1
            have rk0 : Rep (gx X) H ι (.tup as) k := re
            have rk1 := re
            simp only [RepD, Rep] at rk1
            obtain ⟨b, bs, eb, _, _⟩ := rk1
            subst eb
            cases ro
            cases rk
            have hkey : (nestedKind X.prog X.w).is s.heap (P.tup as).nk b := ⟨Rep.key I _ _ _ k1 rk0 rfl, k2⟩
            have hdict := tab_dict I (.inl hH) t e1 e4 r1
            have hylen : ys.length = ks.length := by
              have := congrArg List.length e1
              rw [List.length_map, nkL_len] at this
              exact this
            refine wpAny_setItem_heap (knd := nestedKind X.prog X.w) (by show X.A.units + 1 + 8 < cLine; omega) hkey hdict (fun h' dd' hs => ?_) t.len
            obtain ⟨o', es', ep', ho', hex', hd', he', hk', hn'⟩ := dd'
            have tab' : TabO (gx X) a o' (storedH ys (P.tup as).nk b u) := by
              refine ⟨hex', ⟨es', ep', hd', he'⟩, hn', t.sys, ?_, fun y hy => (hk' y hy).2⟩
              unfold storedH
              split
              · rw [List.length_map]; exact t.len
              · rw [List.length_append, hylen, sizeLine_eq]; simp; omega
            have st : Step ι H ι (upd H a (ExactO a o')) := .put hi hH (fun ps z => by cases z)
            have okO : ObjOk X.prog X.w (upd H a (ExactO a o')) h' a (ExactO a o') := by
              exact ⟨ho', ⟨o', ho'⟩, fun h1 h2 e k => k _ e⟩
            refine ⟨_, d_write I (by rw [hH]; exact True.intro) hs ⟨o', ho'⟩ okO, ?_⟩
            refine q _ _ st (M.put hi hH (fun ps z => by cases z) ?_)
            have ea : (atKey ys (P.tup as).nk).isSome = (P.nkL ks).any fun j => decide (j = (P.tup as).nk) := by rw [atKey_any, e1]
            have r1' := RepL.step st _ _ r1
            have r2' := RepL.step st _ _ r2
            have rf' := Rep.step st _ _ rf
            have rk' := Rep.step st _ _ rk0
            by_cases hin : ((P.nkL ks).any fun j => decide (j = (P.tup as).nk)) = true
            · rw [if_pos hin]
              have es1 : storedH ys (P.tup as).nk b u = ys.map (putAt (P.tup as).nk u) := by unfold storedH; rw [ea, if_pos hin]
              have e5 : ∀ z : NestedKey × Addr × Value, (putAt (P.tup as).nk u z).1 = z.1 ∧ (putAt (P.tup as).nk u z).2.1 = z.2.1 := fun z => by unfold putAt; split <;> exact ⟨rfl, rfl⟩
              refine ⟨o', storedH ys (P.tup as).nk b u, putA (P.nkL ks) vs (P.tup as).nk v, upd_same, tab', ?_, e4, ?_, ?_, r2'.putA rf'⟩
              · rw [es1, List.map_map, ← e1]; exact List.map_congr_left fun z _ => (e5 z).1
              · rw [es1, List.map_map]
                have : (ys.map ((fun y : NestedKey × Addr × Value => V.ref y.2.1) ∘ putAt (P.tup as).nk u)) = ys.map fun y => V.ref y.2.1 := List.map_congr_left fun z _ => by show V.ref _ = _; rw [(e5 z).2]
                rw [this]; exact r1'
              · rw [es1, List.map_map]
                unfold putA
                rw [if_pos hin, ← e1]
                exact vals_put rv w
            · rw [if_neg hin]
              have es1 : storedH ys (P.tup as).nk b u = ys ++ [((P.tup as).nk, b, u)] := by unfold storedH; rw [ea, if_neg hin]
              refine ⟨o', storedH ys (P.tup as).nk b u, vs ++ [v], upd_same, tab', ?_, ?_, ?_, ?_, ?_⟩
              · rw [es1, List.map_append, e1, nkL_append]; rfl
              · rw [keyedL_append, e4, k1]; rfl
              · rw [es1, List.map_append]; exact r1'.append (.one rk')
              · rw [es1, List.map_append]; exact Vals.append w (.cons rv .nil)
              · unfold putA; rw [if_neg hin]; exact r2'.append (.one rf')
          · cases e2
        · cases e2
      · cases e2
    · cases es
  · cases es
end
end DL

set_option Elab.async false
set_option linter.all false
set_option maxRecDepth 100000
/-! The data layer, part k: statements, methods of lists. -/
namespace DL
open PySem PySem.Spec PyProof.Rows L2

/-! ### statements -/
def sSeq (f g : FS) : FS := fun δ m => match f δ m with
  | .nx δ m => g δ m
  | r => r
def sNx : FS := fun δ m => .nx δ m
def sBad : FS := fun _ _ => .bad
def sRet (fa : FE) : FS := fun δ m => thenS (fa δ m) δ fun d m => .rt d m
def sDrop (fa : FE) : FS := fun δ m => thenS (fa δ m) δ fun _ m => .nx δ m
def sIfS (gc : FB) (f g : FS) : FS := fun δ m => thenS (gc δ m) δ fun c m => if c = true then f δ m else g δ m
def sAsgG (fa : FE) (g : FG) : FS := fun δ m => thenS (fa δ m) δ fun d m => match g d δ with
  | some δ' => .nx δ' m
  | none => .bad
def sSub (fv fo fk : FE) : FS := fun δ m => thenS (fv δ m) δ fun v m => thenS (fo δ m) δ fun o m => thenS (fk δ m) δ fun k m => match setM o k v m with
  | some m => .nx δ m
  | none => .bad
def sPar2 (fr : FA) (i j : Nat) : FS := fun δ m => thenS (fr δ m) δ fun ds m => match ds with
  | [d, e] => if i < δ.length ∧ j < δ.length then .nx ((δ.set i d).set j e) m else .bad
  | _ => .bad
def sPar3 (fr : FA) (i j k : Nat) : FS := fun δ m => thenS (fr δ m) δ fun ds m => match ds with
  | [d, e, f] => if i < δ.length ∧ j < δ.length ∧ k < δ.length then .nx (((δ.set i d).set j e).set k f) m else .bad
  | _ => .bad
section
variable {X : Cx} {W : WX} {st : Stmt} {rest p q : List Stmt} {e c o k tg : Expr} {fa fv fo fk : FE} {fr : FA} {gc : FB} {f g : FS} {h : FG} {is : List Nat} {pos : Pos}
theorem dts_nil : DTs X W [] sNx := pss_nil.conv fun E σ H ⟨δ, m, ι, S, M, h⟩ => h σ H ι (.refl _ _) M S
theorem dts_cons (h1 : DT X W st f) (h2 : DTs X W rest g) : DTs X W (st :: rest) (sSeq f g) := (pss_cons h1 h2).conv fun E σ H ⟨δ, m, ι, S, M, h⟩ => by
  refine ⟨δ, m, ι, S, M, ?_⟩
  unfold sSeq at h
  cases q : f δ m with
  | nx δ1 m1 => rw [q] at h; exact fun σ' H' ι' s Mr Sr => ⟨δ1, m1, ι', Sr, Mr, SRP.step s h⟩
  | rt d m1 => rw [q] at h; exact h
  | bk δ1 m1 => rw [q] at h; exact h
  | ct δ1 m1 => rw [q] at h; exact h
  | ex x δ1 m1 => rw [q] at h; exact h
  | bad => rw [q] at h; exact h
theorem dts_one (h1 : DT X W st f) : DTs X W [st] f := pss_one h1
theorem dt_pass : DT X W (.Pass pos) sNx := ps_pass.conv fun E σ H ⟨δ, m, ι, S, M, h⟩ => h σ H ι (.refl _ _) M S
theorem dt_never : DT X W st sBad := ps_never.conv fun E σ H ⟨δ, m, ι, S, M, h⟩ => h
theorem dts_never : DTs X W rest sBad := pss_never.conv fun E σ H ⟨δ, m, ι, S, M, h⟩ => h
theorem dt_ret (ha : DE X W e fa) : DT X W (.Return (some e) pos) (sRet fa) := (ps_ret ha).conv fun E σ H ⟨δ, m, ι, S, M, h⟩ =>
  ⟨δ, m, ι, S, M, SRP.then S h fun d m1 v H1 ι1 _ s1 M1 r1 S1 h1 => h1 v H1 ι1 (.refl _ _) M1 r1⟩
theorem dt_retN : DT X W (.Return none pos) (sRet (sC .non)) := ps_retN.conv fun E σ H ⟨δ, m, ι, S, M, h⟩ => h .non H ι (.refl _ _) M (by simp [RepD, Rep])
theorem dt_expr (ha : DE X W e fa) (hs : swapsWith e none pos.line X.env = pure false := by rfl) : DT X W (.Expr e pos) (sDrop fa) := (ps_expr ha hs).conv fun E σ H ⟨δ, m, ι, S, M, h⟩ =>
  ⟨δ, m, ι, S, M, SRP.then S h fun d m1 v H1 ι1 _ s1 M1 r1 S1 h1 => h1 σ H1 ι1 (.refl _ _) M1 S1⟩
theorem dt_if (hc : DB X W c gc) (ha : DTs X W p f) (hb : DTs X W q g) : DT X W (.If c p q pos) (sIfS gc f g) := (ps_if hc ha hb).conv fun E σ H ⟨δ, m, ι, S, M, h⟩ =>
  ⟨δ, m, ι, S, M, SRP.then S h fun d m1 v H1 ι1 _ s1 M1 r1 S1 h1 => by
    subst r1
    cases d with
    | true => rw [if_pos rfl] at h1; rw [if_pos rfl]; exact ⟨δ, m1, ι1, S1, M1, h1⟩
    | false => rw [if_neg (by decide)] at h1; rw [if_neg (by decide)]; exact ⟨δ, m1, ι1, S1, M1, h1⟩⟩
theorem dt_set {i : Nat} {x : Str} {pos' : Pos} (hN : X.N.Nodup) (ha : DE X W e fa) (hs : swapsWith e (some (.Name x pos')) pos.line X.env = pure false := by rfl) (hi : X.N[i]? = some x := by rfl) (hx : Loc X.env.scope x := by first | exact Or.inl rfl | exact Or.inr rfl)
    (hf : X.fn x = true ∨ X.env.scope.names.lookup x = some .local := by first | exact .inl rfl | exact .inr rfl | assumption) : DT X W (.Assign [.Name x pos'] e pos) (sAsgN fa i) :=
  (ps_set hN hi hx ha hs hf).conv fun E σ H h => asgN_conv h
theorem dt_asg (ha : DE X W e fa) (hg : DG X tg h is) (hs : swapsWithSole [tg] e pos.line X.env = pure false := by rfl) (hw : swappedStores [tg] e X.env = pure none := by rfl)
    (h1 : (assignEach [tg] X.env).map (·.2) = [assign tg X.env] := by rfl) : DT X W (.Assign [tg] e pos) (sAsgG fa h) :=
  (ps_asg ha hg hs hw h1).conv fun E σ H ⟨δ, m, ι, S, M, h⟩ => ⟨δ, m, ι, S, M, SRP.then S h fun d m1 v H1 ι1 _ s1 M1 r1 S1 h1 => by
    split at h1
    · rename_i δ' hg
      exact ⟨δ, ι1, d, δ', S1, .inl r1, hg, fun σ' S' _ => h1 σ' H1 ι1 (.refl _ _) M1 S'⟩
    · exact h1.elim⟩
theorem dt_sub {tpos : Pos} (hu : X.A.units + 110 < cLine) (hv : DE X W e fv) (ho : DE X W o fo) (hk : DE X W k fk) (hs : swapsWithSole [.Subscript o k tpos] e pos.line X.env = pure false := by rfl) (hw : swappedStores [.Subscript o k tpos] e X.env = pure none := by rfl)
    (h1 : (assignEach [.Subscript o k tpos] X.env).map (·.2) = [assign (.Subscript o k tpos) X.env] := by rfl)
    (ha : ∀ v, assign (.Subscript o k tpos) X.env v = (do
      let ov ← holding [v] (eval o X.env)
      let iv ← holding [v, ov] (eval k X.env)
      standAt tpos
      holding [v, ov, iv] (setItem ov iv v)
      release [v, ov, iv] []) := by intro _; rfl) : DT X W (.Assign [.Subscript o k tpos] e pos) (sSub fv fo fk) :=
  (ps_asg hv (pg_sub ho hk (set_all hu) ha) hs hw h1).conv fun E σ H ⟨δ, m, ι, S, M, h⟩ => ⟨δ, m, ι, S, M, SRP.then S h fun d m1 v H1 ι1 _ s1 M1 r1 S1 h1 =>
    ⟨δ, m1, ι1, S1, M1, SRP.then S1 h1 fun d2 m2 v2 H2 ι2 _ s2 M2 r2 S2 h2 => ⟨δ, m2, ι2, S2, M2, SRP.then S2 h2 fun d3 m3 v3 H3 ι3 _ s3 M3 r3 S3 h3 => by
      split at h3
      · rename_i m4 hm
        exact ⟨ι3, m3, d2, d3, d, m4, M3, r2.step s3, r3, r1.step (s2.trans s3), hm, fun H' ι' s M' => h3 σ H' ι' s M' (S3.step s)⟩
      · exact h3.elim⟩⟩⟩
theorem RepDL.three {G : Gx} {H : Hp} {ι : Io} {d e f : D} {vs : List V} (h : RepDL G H ι [d, e, f] vs) : ∃ v u w, vs = [v, u, w] ∧ RepD G H ι d v ∧ RepD G H ι e u ∧ RepD G H ι f w := by
  obtain ⟨v, t, e, r, h⟩ := h
  obtain ⟨u, w, e2, r2, r3⟩ := RepDL.two h
  exact ⟨v, u, w, by rw [e, e2], r, r2, r3⟩
theorem dt_par2 {i j : Nat} {x y : Str} {a b : Expr} {px py pt : Pos} {kt k2 pt2} (hc : X.calm = true) (hN : X.N.Nodup) (ha : DA X W [a, b] fr)
    (hw : swappedStores [.Tuple [.Name x px, .Name y py] kt pt] (.Tuple [a, b] k2 pt2) X.env = pure (some [x, y]) := by rfl)
    (hs : swapsWithSole [.Tuple [.Name x px, .Name y py] kt pt] (.Tuple [a, b] k2 pt2) pos.line X.env = pure false := by rfl)
    (hi : X.N[i]? = some x := by rfl) (hj : X.N[j]? = some y := by rfl) (hij : i ≠ j := by decide) (hx : X.env.scope.names.lookup x = some .local := by rfl) (hy : X.env.scope.names.lookup y = some .local := by rfl) :
    DT X W (.Assign [.Tuple [.Name x px, .Name y py] kt pt] (.Tuple [a, b] k2 pt2) pos) (sPar2 fr i j) :=
  (ps_par hc hN hi hj hij hx hy ha hw hs).conv fun E σ H ⟨δ, m, ι, S, M, h⟩ => ⟨δ, m, ι, S, M, SRP.then S h fun ds m1 vs H1 ι1 _ s1 M1 r1 S1 h1 => by
    split at h1
    · split at h1
      · obtain ⟨v, u, ev, r, r'⟩ := r1.two
        exact ⟨v, u, ev, h1 _ H1 ι1 (.refl _ _) M1 ((S1.set r i).set r' j)⟩
      · exact h1.elim
    · exact h1.elim⟩
theorem dt_par3 {i j l : Nat} {x y z : Str} {a b c : Expr} {px py pz pt : Pos} {kt k2 pt2} (hc : X.calm = true) (hN : X.N.Nodup) (ha : DA X W [a, b, c] fr)
    (hw : swappedStores [.Tuple [.Name x px, .Name y py, .Name z pz] kt pt] (.Tuple [a, b, c] k2 pt2) X.env = pure (some [x, y, z]) := by rfl)
    (hs : swapsWithSole [.Tuple [.Name x px, .Name y py, .Name z pz] kt pt] (.Tuple [a, b, c] k2 pt2) pos.line X.env = pure false := by rfl)
    (hi : X.N[i]? = some x := by rfl) (hj : X.N[j]? = some y := by rfl) (hl : X.N[l]? = some z := by rfl) (hij : i ≠ j := by decide) (hil : i ≠ l := by decide) (hjl : j ≠ l := by decide)
    (hx : X.env.scope.names.lookup x = some .local := by rfl) (hy : X.env.scope.names.lookup y = some .local := by rfl) (hz : X.env.scope.names.lookup z = some .local := by rfl) :
    DT X W (.Assign [.Tuple [.Name x px, .Name y py, .Name z pz] kt pt] (.Tuple [a, b, c] k2 pt2) pos) (sPar3 fr i j l) :=
  (ps_par3 hc hN hi hj hl hij hil hjl hx hy hz ha hw hs).conv fun E σ H ⟨δ, m, ι, S, M, h⟩ => ⟨δ, m, ι, S, M, SRP.then S h fun ds m1 vs H1 ι1 _ s1 M1 r1 S1 h1 => by
    split at h1
    · split at h1
      · obtain ⟨v, u, w, ev, r, r', r''⟩ := r1.three
        exact ⟨v, u, w, ev, h1 _ H1 ι1 (.refl _ _) M1 (((S1.set r i).set r' j).set r'' l)⟩
      · exact h1.elim
    · exact h1.elim⟩
end

/-! ### {} with tuples as keys -/
def sDictT : FE := fun _ m => .ok (.ref m.length) (m ++ [some (.dT [] [])])
theorem de_dictT {X : Cx} {W : WX} {pos : Pos} : DE X W (.Dict [] [] pos) sDictT := ⟨fun pins s σ H Q I ⟨δ, m, ι, S, M, h⟩ => by
  have hn : H s.heap.objs.size = none := I.hok.fresh (Nat.le_refl _)
  refine wpAny_Dict_empty ⟨.ref s.heap.objs.size, _, I.laid (a := s.heap.objs.size) (o := ExactO s.heap.objs.size { cls := .type "dict", data := .dict #[] }) (t' := s.toks) (fun _ _ q => Heap.get?_push_of_some _ q) (Nat.le_refl _) ?_, rfl, ?_⟩
  · exact ⟨Heap.get?_push_size _ rfl, ⟨_, Heap.get?_push_size _ rfl⟩, fun h1 h2 e k => k _ e⟩
  · refine ERP.alloc (o := .dT [] []) M hn ⟨_, [], [], upd_same, ⟨?_, ⟨#[], _, rfl, rfl⟩, ?_, ?_, ?_, ?_⟩, rfl, rfl, .nil, .nil, .nil⟩ h
    · exact ⟨rfl, rfl, rfl⟩
    · exact List.nodup_nil
    · exact beq_eq_false_iff_ne.mpr (Ne.symm (Nat.ne_of_lt I.big))
    · exact Nat.zero_le _
    · intro y hy; cases hy⟩
end DL

set_option Elab.async false
set_option linter.all false
set_option maxRecDepth 100000
/-! The data layer, part l: calls of built-ins. -/
namespace DL
open PySem PySem.Spec PyProof.Rows L2

section
variable {X : Cx} {W : WX} {e : Expr} {es : List Expr} {fa : FE} {fr : FA} {p pos : Pos} {x : Str} {id T : String}
def sCall (g : List P → Option P) (fr : FA) : FE := fun δ m => (fr δ m).bind fun ds m => opL g ds m
theorem de_callB {g : List P → Option P} (hc : CallR X (.builtin id) (rPL X g)) (hm : X.mg x = none) (hv : bootBuiltins x = some (.builtin id)) (ha : DA X W (e :: es) fr) (hg : Gl X x := by rfl) (hn : x ≠ "__name__" := by decide) (hdb : (x == ("__debug__" : Str)) = false := by decide)
    (he : starEach (e :: es) X.env = (false, eval e X.env) :: starEach es X.env := by rfl) (hpl : (backTo pos (starEach es X.env)).any (·.1) = false := by rfl) : DE X W (.Call (.Name x p) (e :: es) [] pos) (sCall g fr) :=
  (pe_callB hc hg hm hv ha hn hdb he hpl).conv fun σ H Q ⟨δ, m, ι, S, M, h⟩ => ⟨δ, m, ι, S, M, h.seq fun ds m1 vs H1 ι1 _ s1 M1 r1 h1 => ERP.opL M1 r1 h1⟩
theorem de_callTy {g : List P → Option P} (hc : CallR X (.type T) (rPL X g)) (hm : X.mg x = none) (hv : bootBuiltins x = some (.type T)) (ha : DA X W (e :: es) fr) (hg : Gl X x := by rfl) (hn : x ≠ "__name__" := by decide) (hdb : (x == ("__debug__" : Str)) = false := by decide)
    (he : starEach (e :: es) X.env = (false, eval e X.env) :: starEach es X.env := by rfl) (hpl : (backTo pos (starEach es X.env)).any (·.1) = false := by rfl) : DE X W (.Call (.Name x p) (e :: es) [] pos) (sCall g fr) :=
  (pe_callTy hc hg hm hv ha hn hdb he hpl).conv fun σ H Q ⟨δ, m, ι, S, M, h⟩ => ⟨δ, m, ι, S, M, h.seq fun ds m1 vs H1 ι1 _ s1 M1 r1 h1 => ERP.opL M1 r1 h1⟩

/-! ### a new list -/
/-- the call makes a new list -/
def rNL (X : Cx) (g : List P → Option (List P)) : List V → Hp → VK → Prop := fun xs H Q => ∃ ι as zs, Paired (fun a x => Rn (gx X) H ι a x) as xs ∧ g as = some zs ∧ (∀ p, H p = none → ι.fre p) ∧ ∀ l vs, H l = none → RepL (gx X) H ι zs vs → Q (.ref l) (upd H l (.lst vs))
def opNL (g : List P → Option (List P)) (ds : List D) (m : Mem) : ER D := match (views ds m).bind g with
  | some z => .ok (.p (.lst z)) m
  | none => .bad
/-- .. that is written to -/
def opNM (g : List P → Option (List P)) (ds : List D) (m : Mem) : ER D := match (views ds m).bind g with
  | some z => .ok (.ref m.length) (m ++ [some (.lst z)])
  | none => .bad
def sCallL (g : List P → Option (List P)) (fr : FA) : FE := fun δ m => (fr δ m).bind fun ds m => opNL g ds m
def sCallM (g : List P → Option (List P)) (fr : FA) : FE := fun δ m => (fr δ m).bind fun ds m => opNM g ds m
variable {σ : L2.St} {ι : Io} {H : Hp} {m : Mem} {Q : VK}
theorem ERP.opNL {g : List P → Option (List P)} {ds : List D} {vs : List V} (M : MRel (gx X) H ι m) (r : RepDL (gx X) H ι ds vs) (h : ERP (gx X) W σ ι H (fun H ι => RepD (gx X) H ι) (opNL g ds m) Q) : rNL X g vs H Q := by
  unfold DL.opNL at h
  cases q : (views ds m).bind g with
  | none => rw [q] at h; exact h.elim
  | some z =>
    rw [q] at h
    obtain ⟨xs, hx, hz⟩ := Option.bind_eq_some_iff.mp q
    exact ⟨ι, xs, z, rn_views M r hx, hz, fun p hp => M.fresh hp, fun l vs hl rl => ERP.fin M h _ _ (Same.upd hl) (rep_lst hl (M.fresh hl) rl)⟩
theorem ERP.opNM {g : List P → Option (List P)} {ds : List D} {vs : List V} (M : MRel (gx X) H ι m) (r : RepDL (gx X) H ι ds vs) (h : ERP (gx X) W σ ι H (fun H ι => RepD (gx X) H ι) (opNM g ds m) Q) : rNL X g vs H Q := by
  unfold DL.opNM at h
  cases q : (views ds m).bind g with
  | none => rw [q] at h; exact h.elim
  | some z =>
    rw [q] at h
    obtain ⟨xs, hx, hz⟩ := Option.bind_eq_some_iff.mp q
    exact ⟨ι, xs, z, rn_views M r hx, hz, fun p hp => M.fresh hp, fun l vs hl rl => ERP.alloc (o := .lst z) M hl ⟨vs, upd_same, RepL.step (.alloc hl) _ _ rl⟩ h⟩
variable {g : List P → Option (List P)}
theorem de_callBL (hc : CallR X (.builtin id) (rNL X g)) (hm : X.mg x = none) (hv : bootBuiltins x = some (.builtin id)) (ha : DA X W (e :: es) fr) (hg : Gl X x := by rfl) (hn : x ≠ "__name__" := by decide) (hdb : (x == ("__debug__" : Str)) = false := by decide)
    (he : starEach (e :: es) X.env = (false, eval e X.env) :: starEach es X.env := by rfl) (hpl : (backTo pos (starEach es X.env)).any (·.1) = false := by rfl) : DE X W (.Call (.Name x p) (e :: es) [] pos) (sCallL g fr) :=
  (pe_callB hc hg hm hv ha hn hdb he hpl).conv fun σ H Q ⟨δ, m, ι, S, M, h⟩ => ⟨δ, m, ι, S, M, h.seq fun ds m1 vs H1 ι1 _ s1 M1 r1 h1 => ERP.opNL M1 r1 h1⟩
theorem de_callBM (hc : CallR X (.builtin id) (rNL X g)) (hm : X.mg x = none) (hv : bootBuiltins x = some (.builtin id)) (ha : DA X W (e :: es) fr) (hg : Gl X x := by rfl) (hn : x ≠ "__name__" := by decide) (hdb : (x == ("__debug__" : Str)) = false := by decide)
    (he : starEach (e :: es) X.env = (false, eval e X.env) :: starEach es X.env := by rfl) (hpl : (backTo pos (starEach es X.env)).any (·.1) = false := by rfl) : DE X W (.Call (.Name x p) (e :: es) [] pos) (sCallM g fr) :=
  (pe_callB hc hg hm hv ha hn hdb he hpl).conv fun σ H Q ⟨δ, m, ι, S, M, h⟩ => ⟨δ, m, ι, S, M, h.seq fun ds m1 vs H1 ι1 _ s1 M1 r1 h1 => ERP.opNM M1 r1 h1⟩
theorem de_callTyL (hc : CallR X (.type T) (rNL X g)) (hm : X.mg x = none) (hv : bootBuiltins x = some (.type T)) (ha : DA X W (e :: es) fr) (hg : Gl X x := by rfl) (hn : x ≠ "__name__" := by decide) (hdb : (x == ("__debug__" : Str)) = false := by decide)
    (he : starEach (e :: es) X.env = (false, eval e X.env) :: starEach es X.env := by rfl) (hpl : (backTo pos (starEach es X.env)).any (·.1) = false := by rfl) : DE X W (.Call (.Name x p) (e :: es) [] pos) (sCallL g fr) :=
  (pe_callTy hc hg hm hv ha hn hdb he hpl).conv fun σ H Q ⟨δ, m, ι, S, M, h⟩ => ⟨δ, m, ι, S, M, h.seq fun ds m1 vs H1 ι1 _ s1 M1 r1 h1 => ERP.opNL M1 r1 h1⟩
theorem de_callTyM (hc : CallR X (.type T) (rNL X g)) (hm : X.mg x = none) (hv : bootBuiltins x = some (.type T)) (ha : DA X W (e :: es) fr) (hg : Gl X x := by rfl) (hn : x ≠ "__name__" := by decide) (hdb : (x == ("__debug__" : Str)) = false := by decide)
    (he : starEach (e :: es) X.env = (false, eval e X.env) :: starEach es X.env := by rfl) (hpl : (backTo pos (starEach es X.env)).any (·.1) = false := by rfl) : DE X W (.Call (.Name x p) (e :: es) [] pos) (sCallM g fr) :=
  (pe_callTy hc hg hm hv ha hn hdb he hpl).conv fun σ H Q ⟨δ, m, ι, S, M, h⟩ => ⟨δ, m, ι, S, M, h.seq fun ds m1 vs H1 ι1 _ s1 M1 r1 h1 => ERP.opNM M1 r1 h1⟩
end

section
variable {X : Cx}
theorem paired1 {R : P → V → Prop} {as : List P} {xs : List V} {a : P} (h : Paired R as xs) (e : as = [a]) : ∃ x, xs = [x] ∧ R a x := by
  subst e
  cases h with
  | cons h t => cases t; exact ⟨_, rfl, h⟩
theorem paired2 {R : P → V → Prop} {as : List P} {xs : List V} {a b : P} (h : Paired R as xs) (e : as = [a, b]) : ∃ x y, xs = [x, y] ∧ R a x ∧ R b y := by
  subst e
  cases h with
  | cons h t =>
    cases t with
    | cons h' t => cases t; exact ⟨_, _, rfl, h, h'⟩
/-! ### len -/
def gLen : List P → Option P
  | [.str z] => if z.length ≤ 16777216 then some (.int (z.length : Nat)) else none
  | [.lst xs] => some (.int (xs.length : Nat))
  | [.tup xs] => some (.int (xs.length : Nat))
  | _ => none
theorem c_len : CallR X (.builtin "len") (rPL X gLen) := by
  intro pins s σ H xs us Q I r h
  obtain ⟨ι, as, z, pr, g, fr, q⟩ := h
  unfold gLen at g
  split at g
  · split at g
    · rename_i hz
      cases g
      obtain ⟨x, rfl, rx⟩ := paired1 pr rfl
      exact call_len pins s σ H _ us Q I r ⟨x, _, rfl, by rw [rn_str rx]; exact ⟨by rw [sizeLine_eq]; exact hz, rfl⟩, q _ _ (.refl _) rep_int⟩
    · cases g
  · cases g
    obtain ⟨x, rfl, rx⟩ := paired1 pr rfl
    obtain ⟨a, vs, rfl, t, rl⟩ := rn_lst rx
    exact call_len pins s σ H _ us Q I r ⟨_, _, rfl, .inl ⟨vs, .inl t, rfl⟩, q _ _ (.refl _) (by rw [rl.length]; exact rep_int)⟩
  · cases g
    obtain ⟨x, rfl, rx⟩ := paired1 pr rfl
    obtain ⟨a, vs, rfl, t, rl⟩ := rn_tup rx
    exact call_len pins s σ H _ us Q I r ⟨_, _, rfl, .inr ⟨vs, t.sq, rfl⟩, q _ _ (.refl _) (by rw [rl.length]; exact rep_int)⟩
  · cases g
/-! ### int -/
def gInt : List P → Option P
  | [.int i] => some (.int i)
  | [.bl b] => some (.int (if b then 1 else 0))
  | _ => none
theorem c_int : CallR X (.type "int") (rPL X gInt) := by
  intro pins s σ H xs us Q I r h
  obtain ⟨ι, as, z, pr, g, fr, q⟩ := h
  unfold gInt at g
  split at g
  · cases g
    obtain ⟨x, rfl, rx⟩ := paired1 pr rfl
    exact call_int1 pins s σ H _ us Q I r (.inl ⟨_, by rw [rn_int rx], q _ _ (.refl _) rep_int⟩)
  · cases g
    obtain ⟨x, rfl, rx⟩ := paired1 pr rfl
    exact call_int1 pins s σ H _ us Q I r (.inr ⟨_, by rw [rn_bl rx], q _ _ (.refl _) rep_int⟩)
  · cases g
/-! ### min(a, b), max(a, b) -/
def gMin2 : List P → Option P
  | [.int i, .int j] => some (.int (if j < i then j else i))
  | _ => none
theorem c_min2 (hc : X.calm = true) : CallR X (.builtin "min") (rPL X gMin2) := by
  intro pins s σ H xs us Q I r h
  obtain ⟨ι, as, z, pr, g, fr, q⟩ := h
  unfold gMin2 at g
  split at g
  · cases g
    obtain ⟨x, y, rfl, rx, ry⟩ := paired2 pr rfl
    exact call_min2 hc pins s σ H _ us Q I r ⟨_, _, by rw [rn_int rx, rn_int ry], q _ _ (.refl _) rep_int⟩
  · cases g
/-! ### all, any -/
def bools : List P → Option (List Bool)
  | [] => some []
  | .bl b :: xs => (bools xs).map (b :: ·)
  | _ => none
theorem bools_rep {G : Gx} {H : Hp} {ι : Io} : ∀ {xs : List P} {bs : List Bool} {vs : List V}, bools xs = some bs → RepL G H ι xs vs → vs = bs.map V.bl
  | [], bs, vs, h, r => by cases h; simp only [RepL] at r; exact r
  | x :: xs, bs, vs, h, r => by
    cases x with
    | bl b =>
      obtain ⟨cs, h1, h2⟩ := Option.map_eq_some_iff.mp h
      subst h2
      simp only [RepL] at r
      obtain ⟨v, t, e, r1, r2⟩ := r
      simp only [Rep] at r1
      rw [e, r1, bools_rep h1 r2]
      rfl
    | _ => cases h
def gAll : List P → Option P
  | [.lst xs] => (bools xs).map fun bs => .bl (bs.all id)
  | _ => none
def gAny : List P → Option P
  | [.lst xs] => (bools xs).map fun bs => .bl (bs.any id)
  | _ => none
theorem c_all (hc : X.calm = true) : CallR X (.builtin "all") (rPL X gAll) := by
  intro pins s σ H xs us Q I r h
  obtain ⟨ι, as, z, pr, g, fr, q⟩ := h
  unfold gAll at g
  split at g
  · obtain ⟨bs, h1, h2⟩ := Option.map_eq_some_iff.mp g
    subst h2
    obtain ⟨x, rfl, rx⟩ := paired1 pr rfl
    obtain ⟨a, vs, rfl, t, rl⟩ := rn_lst rx
    rw [bools_rep h1 rl] at t
    exact cr_all hc pins s σ H _ us Q I r ⟨a, bs, rfl, .inl t, q _ _ (.refl _) rep_bl⟩
  · cases g
theorem c_any (hc : X.calm = true) : CallR X (.builtin "any") (rPL X gAny) := by
  intro pins s σ H xs us Q I r h
  obtain ⟨ι, as, z, pr, g, fr, q⟩ := h
  unfold gAny at g
  split at g
  · obtain ⟨bs, h1, h2⟩ := Option.map_eq_some_iff.mp g
    subst h2
    obtain ⟨x, rfl, rx⟩ := paired1 pr rfl
    obtain ⟨a, vs, rfl, t, rl⟩ := rn_lst rx
    rw [bools_rep h1 rl] at t
    exact cr_any hc pins s σ H _ us Q I r ⟨a, bs, rfl, .inl t, q _ _ (.refl _) rep_bl⟩
  · cases g
/-! ### tuple(x) -/
def gTuple : List P → Option P
  | [.lst xs] => some (.tup xs)
  | [.tup xs] => some (.tup xs)
  | _ => none
theorem c_tuple : CallR X (.type "tuple") (rPL X gTuple) := by
  intro pins s σ H xs us Q I r h
  obtain ⟨ι, as, z, pr, g, fr, q⟩ := h
  unfold gTuple at g
  split at g
  · cases g
    obtain ⟨x, rfl, rx⟩ := paired1 pr rfl
    obtain ⟨a, vs, rfl, t, rl⟩ := rn_lst rx
    obtain ⟨its, w, pl, hz⟩ := I.list (.inl t)
    rw [Vals.ref1 r]
    refine call_tuple_list pl.isList (fun h' kp => ?_) (by simp only [List.size_toArray] <;> rw [← w.length] <;> exact hz)
    have J : Inv X pins σ H { s with heap := h' } := I.kept (t' := s.toks) kp
    exact tup_fin (t' := s.toks) J w hz (q _ _ (Same.upd J.fresh) (rep_tup rfl J.fresh (fr _ J.fresh) rl))
  · cases g
    obtain ⟨x, rfl, rx⟩ := paired1 pr rfl
    obtain ⟨a, vs, rfl, t, rl⟩ := rn_tup rx
    exact call_tuple_of pins s σ H _ us Q I r ⟨a, vs, rfl, .inr ⟨t.sq, q _ _ (.refl _) (rep_tup0 t rl)⟩⟩
  · cases g
/-! ### list(x) -/
def gList : List P → Option (List P)
  | [.lst xs] => some xs
  | [.tup xs] => some xs
  | [.dT ks _] => some ks
  | _ => none
theorem vals_refs : ∀ ys : List (NestedKey × Addr × Value), Vals (ys.map fun y => V.ref y.2.1) (ys.map fun y => Value.ref y.2.1)
  | [] => .nil
  | y :: ys => .cons rfl (vals_refs ys)
theorem c_list (hc : X.calm = true) : CallR X (.type "list") (rNL X gList) := by
  intro pins s σ H xs us Q I r h
  obtain ⟨ι, as, z, pr, g, fr, q⟩ := h
  unfold gList at g
  split at g
  · cases g
    obtain ⟨x, rfl, rx⟩ := paired1 pr rfl
    obtain ⟨a, vs, rfl, t, rl⟩ := rn_lst rx
    exact call_list_of pins s σ H _ us Q I r ⟨a, vs, rfl, .inl (.inl t), fun l hl => q l vs hl rl⟩
  · cases g
    obtain ⟨x, rfl, rx⟩ := paired1 pr rfl
    obtain ⟨a, vs, rfl, t, rl⟩ := rn_tup rx
    exact call_list_of pins s σ H _ us Q I r ⟨a, vs, rfl, .inr t.sq, fun l hl => q l vs hl rl⟩
  · rename_i ks ws
    cases g
    obtain ⟨x, rfl, rx⟩ := paired1 pr rfl
    obtain ⟨a, o, ys, vs, rfl, t, tb, e1, e2, r1, _⟩ := rn_tabD rx
    rw [Vals.ref1 r]
    have ok : ObjOk X.prog X.w H s.heap a (ExactO a o) := t.ok I.hok
    obtain ⟨es, ep, hd, he⟩ := tb.dat
    have raw : s.heap.DictRaw a es ep := ⟨o, ok.1, tb.ex, hd⟩
    have hsz : es.size = ys.length := by rw [← Array.length_toList, he, List.length_map]
    have hn : es.size ≤ sizeLine := by rw [hsz]; exact tb.len
    refine PySem.W.kdl_call (KdlSrc.rawDict (prog := X.prog) (w := X.w) tb.sys) (I.ok.hd hc) raw hn fun h' tk acc' c' hk hD hacc => ?_
    have hv : Vals (ys.map fun y => V.ref y.2.1) acc'.toList := by
      have hl : acc'.toList.length = ys.length := by rw [Array.length_toList, hacc.1, hsz]
      have ha : acc'.toList = ys.map fun y => Value.ref y.2.1 := by
        refine List.ext_getElem? fun i => ?_
        by_cases hi : i < ys.length
        · have h1 : acc'.toList[i]? = some acc'.toList[i] := List.getElem?_eq_getElem (by rw [hl]; exact hi)
          obtain ⟨hi2, h2⟩ := hacc.2 i acc'.toList[i] (by rw [← Array.getElem?_toList]; exact h1)
          have h3 : es[i].key = Value.ref ys[i].2.1 := by
            have h4 : es.toList[i]? = some es[i] := by rw [Array.getElem?_toList]; exact Array.getElem?_eq_getElem hi2
            rw [he, List.getElem?_map, List.getElem?_eq_getElem hi] at h4
            have h5 := Option.some.inj h4
            rw [← h5]; rfl
          rw [h1, List.getElem?_map, List.getElem?_eq_getElem hi, h2, h3]; rfl
        · rw [List.getElem?_eq_none (by rw [hl]; omega), List.getElem?_eq_none (by rw [List.length_map]; omega)]
      rw [ha]
      exact vals_refs ys
    have hl2 : (ys.map fun y => V.ref y.2.1).length ≤ sizeLine := by rw [List.length_map]; exact tb.len
    exact ⟨.ref s.heap.objs.size, _, I.laid (t' := tk) hk (Nat.le_refl _) (show ObjOk X.prog X.w _ h' _ (.lst _) from ⟨hl2, acc'.toList, c', hv, by simpa using hD⟩), rfl, q _ _ (I.hok.fresh (Nat.le_refl _)) r1⟩
  · cases g
/-! ### sorted(list) -/
def alikeL (xs : List P) : Bool := xs.all fun a => xs.all fun b => PySem.W.alike a.py b.py
def P.rows : P → Bool
  | .tup (_ :: _) => true
  | _ => false
def P.item : P → Bool
  | .bl _ => true
  | .int _ => true
  | .str _ => true
  | .lst _ => true
  | _ => false
/-- the order of sorted -/
def P.le (a b : P) : Bool := PySem.W.dataLe false P.py a b
/-- they can be sorted -/
def sortOk (xs : List P) : Prop := P.plainL xs = true ∧ alikeL xs = true ∧ (xs.all P.rows = true ∨ xs.all P.item = true) ∧ (xs.all fun x => decide (x.dep ≤ 100)) = true
instance (xs : List P) : Decidable (sortOk xs) := by unfold sortOk; exact inferInstance
def gSorted : List P → Option (List P)
  | [.lst xs] => if sortOk xs then some (xs.mergeSort P.le) else none
  | [.tup xs] => if sortOk xs then some (xs.mergeSort P.le) else none
  | [.dT ks _] => if sortOk ks then some (ks.mergeSort P.le) else none
  | _ => none
theorem each_rep {G : Gx} {H : Hp} {ι : Io} : ∀ {xs : List P} {vs : List V} {us : List Value}, RepL G H ι xs vs → Vals vs us → PySem.W.EachIs (fun u x => ∃ v, RelV v u ∧ Rep G H ι x v) us xs
  | [], vs, us, r, w => by simp only [RepL] at r; subst r; cases w; exact .nil
  | x :: xs, vs, us, r, w => by
    simp only [RepL] at r
    obtain ⟨v, t, e, r1, r2⟩ := r
    subst e
    cases w with
    | cons w1 w2 => exact .cons ⟨v, w1, r1⟩ (each_rep r2 w2)
theorem rep_each {G : Gx} {H : Hp} {ι : Io} : ∀ {xs : List P} {us : List Value}, PySem.W.EachIs (fun u x => ∃ v, RelV v u ∧ Rep G H ι x v) us xs → ∃ vs, Vals vs us ∧ RepL G H ι xs vs
  | _, _, .nil => ⟨[], .nil, .nil⟩
  | _, _, .cons ⟨v, w, r⟩ t => let ⟨vs, h1, h2⟩ := rep_each t; ⟨v :: vs, .cons w h1, .cons r h2⟩
theorem each_mem {α β : Type} {R S : α → β → Prop} : ∀ {as : List α} {bs : List β}, PySem.W.EachIs R as bs → (∀ a b, b ∈ bs → R a b → S a b) → PySem.W.EachIs S as bs
  | _, _, .nil, _ => .nil
  | _, _, .cons r t, h => .cons (h _ _ List.mem_cons_self r) (each_mem t fun a b m => h a b (List.mem_cons_of_mem _ m))
theorem sort_alike {ys : List P} (h2 : alikeL ys = true) : PySem.W.AllAlike (ys.map P.py) := fun d hd d' hd' => by
  obtain ⟨y, hy, rfl⟩ := List.mem_map.mp hd
  obtain ⟨y', hy', rfl⟩ := List.mem_map.mp hd'
  unfold alikeL at h2
  rw [List.all_eq_true] at h2
  have := h2 y hy
  rw [List.all_eq_true] at this
  exact this y' hy'
theorem sort_able {ys : List P} (h3 : ys.all P.rows = true ∨ ys.all P.item = true) : PySem.W.Sortable (ys.map P.py) := by
  rcases h3 with h3 | h3
  · refine .inl fun d hd => ?_
    obtain ⟨y, hy, rfl⟩ := List.mem_map.mp hd
    have := List.all_eq_true.mp h3 y hy
    cases y with
    | tup zs =>
      cases zs with
      | nil => cases this
      | cons z zs => exact ⟨z.py, P.pyL zs, by rw [P.py, P.pyL]⟩
    | _ => cases this
  · refine .inr fun d hd => ?_
    obtain ⟨y, hy, rfl⟩ := List.mem_map.mp hd
    have := List.all_eq_true.mp h3 y hy
    cases y with
    | bl b => exact ⟨by simp [P.py], fun xs => by simp [P.py]⟩
    | int b => exact ⟨by simp [P.py], fun xs => by simp [P.py]⟩
    | str b => exact ⟨by simp [P.py], fun xs => by simp [P.py]⟩
    | lst b => exact ⟨by simp [P.py], fun xs => by simp [P.py]⟩
    | _ => cases this
/-- of anything whose items can be told -/
theorem sorted_by (hu : X.A.units + 110 < cLine) {pins : List (Addr × Obj)} {s : Shared} {σ : L2.St} {H : Hp} {ι : Io} {ys : List P} {a : Addr} {Q : VK} (I : Inv X pins σ H s) (hc : sortOk ys) (hlen : ys.length ≤ sizeLine)
    (coll : ∀ (E : Value → Shared → Prop) (R : List Value → Shared → Prop), (∀ h' tk us, (∀ b o, s.heap.get? b = some o → h'.get? b = some o) → PySem.W.EachIs (fun u x => ∃ v, RelV v u ∧ Rep (gx X) H ι x v) us ys → R us { s with heap := h', toks := tk }) → wpAny (model X.prog X.w) X.A.in1 (collect (.ref a)) R E s)
    (q : ∀ p vs, H p = none → RepL (gx X) H ι (ys.mergeSort P.le) vs → Q (.ref p) (upd H p (.lst vs))) : wpAny (model X.prog X.w) X.A (call (.builtin "sorted") [.ref a]) (EP X pins σ Q) X.xe s := by
  obtain ⟨c1, c2, c3, c4⟩ := hc
  rw [P.plainL_eq, List.all_eq_true] at c1
  refine Calls.call_function_entry PyProof.Rows.kind_sorted PyProof.Rows.plain_sorted PyProof.Rows.entry_sorted (PyProof.Rows.args_sorted1 _) ?_
  unfold Builtin.«sorted»
  refine wpAny_bind (m := checkCount "sorted" 1 1 _) (wpAny_pure ?_)
  refine wpAny_bind (coll _ _ fun h1 tk us keep er => ?_)
  have J : Inv X pins σ H { s with heap := h1, toks := tk } := I.kept keep
  have lu : us.length = ys.length := er.length
  refine wpAny_bind (wpAny_newList ?_ (by rw [lu]; exact hlen))
  have at1 : (h1.push (seqObj "list" us.toArray 0)).get? h1.objs.size = some (seqObj "list" us.toArray 0) := Heap.get?_push_size _ rfl
  show wpAny _ _ _ _ _ { s with heap := h1.push (seqObj "list" us.toArray 0), toks := tk }
  have rd : PySem.W.EachIs (fun u x => ∃ as, Reads (PySem.W.sortingHeap (h1.push (seqObj "list" us.toArray 0)) h1.objs.size us) u x.py as) us ys := each_mem er fun u y hy ⟨v, w, ry⟩ => by
    obtain ⟨as, r1⟩ := Rn.reads J (c1 y hy) (Rep.rn ry) w
    refine ⟨as, PyProof.Rows.Reads.keeps (fun b o eb => ?_) r1⟩
    exact PySem.W.sortingHeap_old (Nat.ne_of_lt (Heap.lt_size eb)) (Heap.get?_push_of_some _ eb)
  have al := sort_alike c2
  refine wpAny_bind (wpAny_holding (wpAny_call_entry PyProof.Rows.slot_list_sort ⟨_, at1, rfl⟩ PyProof.Rows.entry_list_sort
    (PySem.W.list_sort_vals (s := { s with heap := h1.push (seqObj "list" us.toArray 0), toks := tk }) at1
      (PySem.W.SortsAt.data (PySem.W.each_map (R := fun u d => ∃ as, Reads (PySem.W.sortingHeap (h1.push (seqObj "list" us.toArray 0)) h1.objs.size us) u d as) P.py rd) al (sort_able c3) fun d hd => ?_) (by rw [lu]; exact hlen) ⟨_, rfl, ?_⟩) (PyProof.Rows.args_list_sort _)))
  · obtain ⟨y, hy, rfl⟩ := List.mem_map.mp hd
    have := of_decide_eq_true (List.all_eq_true.mp c4 y hy)
    rw [P.dep_py]
    show X.A.units + 2 + y.dep < cLine
    omega
  · obtain ⟨out, ho⟩ : ∃ out, PySem.W.sortVals (PySem.W.dataKind (PySem.W.sortingHeap (h1.push (seqObj "list" us.toArray 0)) h1.objs.size us) (ys.map P.py)) false us us = out := ⟨_, rfl⟩
    have eo := PySem.W.sortVals_data false er rd al
    rw [ho] at eo
    obtain ⟨ep, e2⟩ := PyProof.Rows.sortedHeap_at (vs := us) (out := out.toArray) at1
    obtain ⟨vs2, w2, r2⟩ := rep_each eo
    have l2 : vs2.length ≤ sizeLine := by rw [w2.length, eo.length, List.length_mergeSort]; exact hlen
    refine wpAny_pure ⟨_, rfl, .ref h1.objs.size, upd H h1.objs.size (.lst vs2), J.laid (t' := tk) (fun b u eb => ?_) (Nat.le_refl _) (show ObjOk X.prog X.w _ _ _ (.lst vs2) from ⟨l2, out, ep, w2, ?_⟩), rfl, q _ _ (J.hok.fresh (Nat.le_refl _)) r2⟩
    · have hb : b < h1.objs.size := Heap.lt_size eb
      rw [PyProof.Rows.sortedHeap_old (Nat.ne_of_lt hb) (by rw [size_push']; exact Nat.lt_succ_of_lt hb)]
      exact Heap.get?_push_of_some _ eb
    · subst ho
      exact e2
theorem c_sorted (hc : X.calm = true) (hu : X.A.units + 110 < cLine) : CallR X (.builtin "sorted") (rNL X gSorted) := by
  intro pins s σ H xs us Q I r h
  obtain ⟨ι, as, z, pr, g, fr, q⟩ := h
  unfold gSorted at g
  split at g
  · split at g
    · rename_i hk
      cases g
      obtain ⟨x, rfl, rx⟩ := paired1 pr rfl
      obtain ⟨a, vs, rfl, t, rl⟩ := rn_lst rx
      obtain ⟨its, w, hl, hz⟩ := I.list (.inl t)
      rw [Vals.ref1 r]
      refine sorted_by hu I hk (by rw [rl.length]; exact hz) (fun E R k => ?_) q
      obtain ⟨o, n, e1, e2, _, e3⟩ := hl
      exact wpAny_collect_seq a (.inl rfl) e1 e2 e3 (fun h' hk => k h' s.toks _ hk (each_rep rl (by simpa using w))) (by simpa using (by rw [← w.length]; exact hz : its.length ≤ sizeLine))
    · cases g
  · split at g
    · rename_i hk
      cases g
      obtain ⟨x, rfl, rx⟩ := paired1 pr rfl
      obtain ⟨a, vs, rfl, t, rl⟩ := rn_tup rx
      obtain ⟨its, w, hl, hz⟩ := I.tuple t.sq
      rw [Vals.ref1 r]
      refine sorted_by hu I hk (by rw [rl.length]; exact hz) (fun E R k => ?_) q
      obtain ⟨o, e1, e2, n, e3⟩ := hl
      exact wpAny_collect_seq a (.inr rfl) e1 e2 e3 (fun h' hk => k h' s.toks _ hk (each_rep rl (by simpa using w))) (by simpa using (by rw [← w.length]; exact hz : its.length ≤ sizeLine))
    · cases g
  · split at g
    · rename_i hk
      cases g
      obtain ⟨x, rfl, rx⟩ := paired1 pr rfl
      obtain ⟨a, o, ys, vs, rfl, t, tb, e1, e2, r1, _⟩ := rn_tabD rx
      rw [Vals.ref1 r]
      have ok : ObjOk X.prog X.w H s.heap a (ExactO a o) := t.ok I.hok
      obtain ⟨es, ep, Z⟩ := tab_z tb
      have ln := Z.len
      rw [List.length_map] at ln
      have hn : es.size ≤ sizeLine := by rw [ln]; exact tb.len
      refine sorted_by hu I hk (by rw [r1.length, List.length_map]; exact tb.len) (fun E R k => ?_) q
      refine PySem.W.kdu_collect (KdlSrc.rawDict (prog := X.prog) (w := X.w) tb.sys) (I.ok.hd hc) ⟨o, ok.1, tb.ex, Z.dat⟩ hn fun h' tk acc kp hacc => ?_
      have hv : Vals (ys.map fun y => V.ref y.2.1) acc.toList := by
        have hl : acc.toList.length = ys.length := by rw [Array.length_toList, hacc.1, ln]
        refine vals_of_at (by rw [List.length_map, hl]) fun j x u hx hu' => ?_
        obtain ⟨hi, h2⟩ := hacc.2 j u (by rw [← Array.getElem?_toList]; exact hu')
        obtain ⟨en, h3, h4⟩ := Z.key j x hx
        rw [Array.getElem?_eq_getElem hi] at h3
        cases h3
        rw [h2]
        exact h4
      exact k h' tk _ kp (each_rep r1 hv)
    · cases g
  · cases g
end
end DL

set_option Elab.async false
set_option linter.all false
set_option maxRecDepth 100000
/-! The data layer, part m: isinstance, repr, methods of lists. -/
namespace DL
open PySem PySem.Spec PyProof.Rows L2

/-! ### isinstance(x, T) -/
def P.tyN : P → Option String
  | .non => some "NoneType"
  | .bl _ => some "bool"
  | .int _ => some "int"
  | .str _ => some "str"
  | .tup _ => some "tuple"
  | .lst _ => some "list"
  | .dK _ _ => some "dict"
  | .dT _ _ => some "dict"
  | _ => none
def isInt : P → Option Bool
  | .obj _ _ _ => none
  | .exc _ _ _ => none
  | .int _ => some true
  | .bl _ => some true
  | _ => some false
def isBool : P → Option Bool
  | .obj _ _ _ => none
  | .exc _ _ _ => none
  | .bl _ => some true
  | _ => some false
def isText : P → Option Bool
  | .obj _ _ _ => none
  | .exc _ _ _ => none
  | .str _ => some true
  | _ => some false
def isTup : P → Option Bool
  | .obj _ _ _ => none
  | .exc _ _ _ => none
  | .tup _ => some true
  | _ => some false
def isLst : P → Option Bool
  | .obj _ _ _ => none
  | .exc _ _ _ => none
  | .lst _ => some true
  | _ => some false
def isDct : P → Option Bool
  | .obj _ _ _ => none
  | .exc _ _ _ => none
  | .dK _ _ => some true
  | .dT _ _ => some true
  | _ => some false
/-- f tells whether something is of the type T -/
def Tells (T : String) (f : P → Option Bool) : Prop := ∀ x b, f x = some b → ∃ t, x.tyN = some t ∧ kitB t T = some b
theorem tells_int : Tells "int" isInt := fun x b h => by cases x <;> first | (cases h; done) | (cases h; exact ⟨_, rfl, by decide +kernel⟩)
theorem tells_bool : Tells "bool" isBool := fun x b h => by cases x <;> first | (cases h; done) | (cases h; exact ⟨_, rfl, by decide +kernel⟩)
theorem tells_str : Tells "str" isText := fun x b h => by cases x <;> first | (cases h; done) | (cases h; exact ⟨_, rfl, by decide +kernel⟩)
theorem tells_tuple : Tells "tuple" isTup := fun x b h => by cases x <;> first | (cases h; done) | (cases h; exact ⟨_, rfl, by decide +kernel⟩)
theorem tells_list : Tells "list" isLst := fun x b h => by cases x <;> first | (cases h; done) | (cases h; exact ⟨_, rfl, by decide +kernel⟩)
theorem tells_dict : Tells "dict" isDct := fun x b h => by cases x <;> first | (cases h; done) | (cases h; exact ⟨_, rfl, by decide +kernel⟩)
section
variable {X : Cx} {W : WX} {e e2 : Expr} {es : List Expr} {fa : FE} {fr : FA} {p p2 pos : Pos} {T : String}
theorem kit_rn {pins : List (Addr × Obj)} {σ : L2.St} {H : Hp} {s : Shared} {ι : Io} {a : P} {x : V} {u : Value} {t : String} (I : Inv X pins σ H s) (rx : RelV x u) (r : Rn (gx X) H ι a x) (ht : a.tyN = some t) : ∃ P : Heap → Prop, PySem.W.KitX X.K u (.type t) P ∧ P s.heap ∧ u ≠ .builtin "__main__.__loader__#opaque" := by
  cases a with
  | non => cases ht; rw [rn_non r] at rx; cases (show u = Value.none from rx); exact ⟨_, PySem.W.kitx_none, True.intro, fun z => nomatch z⟩
  | bl b => cases ht; rw [rn_bl r] at rx; cases (show u = Value.bool b from rx); exact ⟨_, PySem.W.kitx_bool, True.intro, fun z => nomatch z⟩
  | int b => cases ht; rw [rn_int r] at rx; obtain ⟨t, q⟩ := (show ∃ t, u = Value.int b t from rx); cases q; exact ⟨_, PySem.W.kitx_int, True.intro, fun z => nomatch z⟩
  | str b => cases ht; rw [rn_str r] at rx; obtain ⟨t, q⟩ := (show ∃ t, u = Value.str b t from rx); cases q; exact ⟨_, PySem.W.kitx_str, True.intro, fun z => nomatch z⟩
  | tup b =>
    cases ht
    obtain ⟨p, vs, e, t, _⟩ := rn_tup r
    subst e
    cases (show u = Value.ref p from rx)
    obtain ⟨its, _, ⟨o, h1, h2, _⟩, _⟩ := I.tuple t.sq
    exact ⟨_, PySem.W.kitx_tuple, ⟨o, h1, h2⟩, fun z => nomatch z⟩
  | lst b =>
    cases ht
    obtain ⟨p, vs, e, t, _⟩ := rn_lst r
    subst e
    cases (show u = Value.ref p from rx)
    obtain ⟨_, its, n, _, h1⟩ := lst_rd I t
    exact ⟨_, PySem.W.kitx_list, ⟨_, h1, rfl⟩, fun z => nomatch z⟩
  | dK ks b =>
    cases ht
    obtain ⟨p, vs, e, t, _⟩ := rn_dK r
    subst e
    cases (show u = Value.ref p from rx)
    obtain ⟨_, hd, vs, _, dd⟩ := dk_rd I.hok t
    obtain ⟨ob, _, _, h1, h2, _⟩ := dd
    exact ⟨_, PySem.W.kitx_dict, ⟨ob, h1, h2.1⟩, fun z => nomatch z⟩
  | dT ks b =>
    cases ht
    obtain ⟨p, o, ys, vs, e, t, tb, _⟩ := rn_tabD r
    subst e
    cases (show u = Value.ref p from rx)
    have ok : ObjOk X.prog X.w H s.heap p (ExactO p o) := t.ok I.hok
    exact ⟨_, PySem.W.kitx_dict, ⟨o, ok.1, tb.ex.1⟩, fun z => nomatch z⟩
  | obj C ns b => cases ht
  | exc C ns b => cases ht
/-- .. of a value and a type -/
def rIsP (X : Cx) (T : String) (f : P → Option Bool) : List V → Hp → VK → Prop := fun xs H Q => ∃ ι a x b, xs = [x, .ty T] ∧ Rn (gx X) H ι a x ∧ f a = some b ∧ Q (.bl b) H
theorem call_isP {f : P → Option Bool} (ht : Tells T f) : CallR X (.builtin "isinstance") (rIsP X T f) := by
  intro pins s σ H xs us Q I r h
  obtain ⟨ι, a, x, b, rfl, rx, hf, q⟩ := h
  obtain ⟨u1, u2, rfl, r1, r2⟩ := vals2 r
  cases r2
  obtain ⟨t, h1, h2⟩ := ht a b hf
  obtain ⟨P, Z, p, hx⟩ := kit_rn I r1 rx h1
  exact PySem.W.kia_one Z I.kIn p (kit_ty h2) hx fun tk => ⟨.bl b, H, I.tok tk, rfl, q⟩
def isD (f : P → Option Bool) (d : D) (m : Mem) : ER D := match (view d m).bind f with
  | some b => .ok (.p (.bl b)) m
  | none => .bad
def sIs (f : P → Option Bool) (fa : FE) : FE := fun δ m => (fa δ m).bind fun d m => isD f d m
theorem de_is {f : P → Option Bool} {T' : Str} (ht : Tells T f) (hm : X.mg "isinstance" = none) (hm2 : X.mg T' = none) (hv2 : bootBuiltins T' = some (.type T)) (ha : DE X W e fa) (hg : Gl X "isinstance" := by rfl) (hg2 : Gl X T' := by rfl) (hn : T' ≠ "__name__" := by decide) (hdb : (T' == ("__debug__" : Str)) = false := by decide)
    (he : starEach [e, .Name T' p2] X.env = (false, eval e X.env) :: starEach [.Name T' p2] X.env := by rfl) (he2 : starEach [.Name T' p2] X.env = (false, eval (.Name T' p2) X.env) :: starEach [] X.env := by rfl) (hpl : (backTo pos (starEach [.Name T' p2] X.env)).any (·.1) = false := by rfl) :
    DE X W (.Call (.Name "isinstance" p) [e, .Name T' p2] [] pos) (sIs f fa) :=
  (pe_callB (call_isP ht) hg hm (show bootBuiltins "isinstance" = some (.builtin "isinstance") from PyProof.Rows.boot_isinstance) (pa_cons ha (pa_cons (pe_bltn (v := .ty T) hg2 hm2 hv2 rfl hn hdb) pa_nil he2) he) (by decide) (by decide) he hpl).conv fun σ H Q ⟨δ, m, ι, S, M, h⟩ =>
    ⟨δ, m, ι, S, M, h.seq fun d m1 v H1 ι1 _ s1 M1 r1 h1 => by
      show rIsP X T f [v, .ty T] H1 Q
      unfold isD at h1
      cases q : (view d m1).bind f with
      | none => rw [q] at h1; exact h1.elim
      | some b =>
        rw [q] at h1
        obtain ⟨a, hx, hz⟩ := Option.bind_eq_some_iff.mp q
        exact ⟨ι1, a, v, b, rfl, rn_view M1 r1 hx, hz, ERP.fin M1 h1 _ _ (.refl _) rep_bl⟩⟩

/-! ### repr -/
/-- it may be shown -/
def P.shows (x : P) : Bool := x.plain && decide (x.dep ≤ 100) && x.py.showable && decide (x.py.shown.length ≤ 16777216)
def gRepr : List P → Option P
  | [.tup xs] => if (P.tup xs).shows = true then some (.str (P.tup xs).py.shown) else none
  | [.lst xs] => if (P.lst xs).shows = true then some (.str (P.lst xs).py.shown) else none
  | _ => none
mutual
theorem P.noDict : ∀ x : P, x.py.hasDict = false
  | .non => by simp [P.py, PyData.hasDict]
  | .bl _ => by simp [P.py, PyData.hasDict]
  | .int _ => by simp [P.py, PyData.hasDict]
  | .str _ => by simp [P.py, PyData.hasDict]
  | .tup xs => by simp only [P.py, PyData.hasDict]; exact P.noDictL xs
  | .lst xs => by simp only [P.py, PyData.hasDict]; exact P.noDictL xs
  | .dK _ _ => by simp [P.py, PyData.hasDict]
  | .dT _ _ => by simp [P.py, PyData.hasDict]
  | .obj _ _ _ => by simp [P.py, PyData.hasDict]
  | .exc _ _ _ => by simp [P.py, PyData.hasDict]
theorem P.noDictL : ∀ xs : List P, PyData.hasDictAll (P.pyL xs) = false
  | [] => by simp [P.pyL, PyData.hasDictAll]
  | x :: xs => by simp only [P.pyL, PyData.hasDictAll, P.noDict x, P.noDictL xs, Bool.or_self]
end
theorem c_repr (hu : X.A.units + 110 < cLine) (hgd : X.A.guards = some []) : CallR X (.builtin "repr") (rPL X gRepr) := by
  intro pins s σ H xs us Q I r h
  obtain ⟨ι, as, z, pr, g, fr, q⟩ := h
  have key : ∀ (a : P) (x : V), (∃ p, x = .ref p) → Rn (gx X) H ι a x → a.shows = true → xs = [x] → (∀ v H', Same H H' → Rep (gx X) H' ι (.str a.py.shown) v → Q v H') → wpAny (model X.prog X.w) X.A (call (.builtin "repr") us) (EP X pins σ Q) X.xe s := by
    rintro a x ⟨p, rfl⟩ rx sh rfl q
    unfold P.shows at sh
    simp only [Bool.and_eq_true, decide_eq_true_eq] at sh
    obtain ⟨⟨⟨h1, h2⟩, h3⟩, h4⟩ := sh
    rw [Vals.ref1 r]
    obtain ⟨as, rd⟩ := Rn.reads I h1 rx (show RelV (.ref p) (.ref p) from rfl)
    exact repr_of_reads' rd h3 (fun z => by rw [P.noDict] at z; cases z) hgd (by rw [P.dep_py]; omega) (fun _ _ e => e) (fun h' u tk hk => ⟨.str _, H, I.kept hk, ⟨_, rfl⟩, q _ _ (.refl _) rep_str⟩) (by rw [sizeLine_eq]; exact h4)
  unfold gRepr at g
  split at g
  · split at g
    · rename_i sh
      cases g
      obtain ⟨x, ex, rx⟩ := paired1 pr rfl
      obtain ⟨p, _, ep, _⟩ := rn_tup rx
      exact key _ x ⟨p, ep⟩ rx sh ex q
    · cases g
  · split at g
    · rename_i sh
      cases g
      obtain ⟨x, ex, rx⟩ := paired1 pr rfl
      obtain ⟨p, _, ep, _⟩ := rn_lst rx
      exact key _ x ⟨p, ep⟩ rx sh ex q
    · cases g
  · cases g
end

/-! ### methods that write to a list -/
/-- what a method answers and leaves -/
def rMt (X : Cx) (f : D → List D → Mem → Option (P × Mem)) : V → List V → Hp → VK → Prop := fun x xs H Q => ∃ ι m d ds z m', MRel (gx X) H ι m ∧ RepD (gx X) H ι d x ∧ RepDL (gx X) H ι ds xs ∧ f d ds m = some (z, m') ∧ ∀ v H' ι', Step ι H ι' H' → MRel (gx X) H' ι' m' → Rep (gx X) H' ι' z v → Q v H'
def onLst (f : List P → List P → Option (P × List P)) (d : D) (ds : List D) (m : Mem) : Option (P × Mem) := match d with
  | .ref i => (match m[i]?, allP ds with
    | some (some (.lst xs)), some ys => (f xs ys).map fun r => (r.1, m.set i (some (.lst r.2)))
    | _, _ => none)
  | _ => none
def fAppend (xs ys : List P) : Option (P × List P) := match ys with
  | [y] => if xs.length < 16777216 then some (.non, xs ++ [y]) else none
  | _ => none
def fPop0 (xs ys : List P) : Option (P × List P) := match ys with
  | [] => (xs[xs.length - 1]?).map fun y => (y, xs.dropLast)
  | _ => none
def fPop1 (xs ys : List P) : Option (P × List P) := match ys with
  | [.int i] => if -(2 ^ 63) ≤ i ∧ i < 2 ^ 63 then (ixN xs.length i).bind fun k => (xs[k]?).map fun y => (y, xs.eraseIdx k) else none
  | _ => none
/-- the list is written on by what another tells -/
def onExt (d : D) (ds : List D) (m : Mem) : Option (P × Mem) := match d, ds with
  | .ref i, [e] => (match m[i]?, view e m with
    | some (some (.lst xs)), some (.lst zs) => if xs.length + zs.length ≤ 16777216 then some (.non, m.set i (some (.lst (xs ++ zs)))) else none
    | _, _ => none)
  | _, _ => none
theorem RepL.dropLast {G : Gx} {H : Hp} {ι : Io} {xs : List P} {vs : List V} (r : RepL G H ι xs vs) : RepL G H ι xs.dropLast vs.dropLast := by
  rw [List.dropLast_eq_take, List.dropLast_eq_take, r.length]
  exact r.take _
section
variable {X : Cx} {W : WX} {o e : Expr} {es : List Expr} {fo : FE} {fr : FA} {apos cpos : Pos}
theorem lst_put {G : Gx} {ι : Io} {H : Hp} {m : Mem} {i : Nat} {a : Addr} {vs us : List V} {ys : List P} (M : MRel G H ι m) (hi : ι.at_[i]? = some (some a)) (hH : H a = some (.lst vs)) (r : RepL G H ι ys us) : Step ι H ι (upd H a (.lst us)) ∧ MRel G (upd H a (.lst us)) ι (m.set i (some (.lst ys))) := by
  have st : Step ι H ι (upd H a (.lst us)) := .put hi hH (fun ps z => by cases z)
  exact ⟨st, M.put hi hH (fun ps z => by cases z) ⟨_, upd_same, RepL.step st _ _ r⟩⟩
theorem on_lst {f : List P → List P → Option (P × List P)} {ι : Io} {H : Hp} {m m' : Mem} {d : D} {ds : List D} {z : P} {x : V} {xs : List V} (M : MRel (gx X) H ι m) (rd : RepD (gx X) H ι d x) (rs : RepDL (gx X) H ι ds xs) (hf : onLst f d ds m = some (z, m')) :
    ∃ i a vs ys as w, x = .ref a ∧ ι.at_[i]? = some (some a) ∧ H a = some (.lst vs) ∧ RepL (gx X) H ι ys vs ∧ RepL (gx X) H ι as xs ∧ f ys as = some (z, w) ∧ m' = m.set i (some (.lst w)) := by
  unfold onLst at hf
  split at hf
  · rename_i i
    split at hf
    · rename_i ys as hm hv
      obtain ⟨w, e1, e2⟩ := Option.map_eq_some_iff.mp hf
      obtain ⟨a, ea, qa⟩ := rd
      obtain ⟨hi, vs, hH, r⟩ := M.live hm qa
      obtain ⟨w1, w2⟩ := w
      cases e2
      exact ⟨i, a, vs, ys, as, w2, ea, hi, hH, r, allP_rep hv rs, e1, rfl⟩
    · cases hf
  · cases hf
theorem m_append : MtR X "list.append" (rMt X (onLst fAppend)) := by
  intro pins s σ H x xs v us Q I rx rv h
  obtain ⟨ι, m, d, ds, z, m', M, rd, rs, hf, q⟩ := h
  obtain ⟨i, a, vs, ys, as, w, ex, hi, hH, r, ra, e1, em⟩ := on_lst M rd rs hf
  unfold fAppend at e1
  split at e1
  · split at e1
    · rename_i hl
      cases e1
      simp only [RepL] at ra
      obtain ⟨x1, t, ea, ry, et⟩ := ra
      subst et ea ex em
      obtain ⟨st, M'⟩ := lst_put M hi hH (r.append (.one ry))
      exact mt_append pins s σ H _ _ v us Q I rx rv ⟨a, vs, x1, rfl, rfl, hH, by rw [sizeLine_eq, ← r.length]; exact hl, q _ _ _ st M' rep_non⟩
    · cases e1
  · cases e1
theorem m_pop0 : MtR X "list.pop" (rMt X (onLst fPop0)) := by
  intro pins s σ H x xs v us Q I rx rv h
  obtain ⟨ι, m, d, ds, z, m', M, rd, rs, hf, q⟩ := h
  obtain ⟨i, a, vs, ys, as, w, ex, hi, hH, r, ra, e1, em⟩ := on_lst M rd rs hf
  unfold fPop0 at e1
  split at e1
  · obtain ⟨y, hy, e2⟩ := Option.map_eq_some_iff.mp e1
    cases e2
    simp only [RepL] at ra
    subst ra ex em
    obtain ⟨st, M'⟩ := lst_put M hi hH r.dropLast
    obtain ⟨u, hu, ru⟩ := r.get hy
    exact mt_pop pins s σ H _ _ v us Q I rx rv ⟨a, vs, u, rfl, rfl, hH, by rw [← r.length]; exact hu, q _ _ _ st M' (Rep.step st _ _ ru)⟩
  · cases e1
theorem m_pop1 : MtR X "list.pop" (rMt X (onLst fPop1)) := by
  intro pins s σ H x xs v us Q I rx rv h
  obtain ⟨ι, m, d, ds, z, m', M, rd, rs, hf, q⟩ := h
  obtain ⟨i, a, vs, ys, as, w, ex, hi, hH, r, ra, e1, em⟩ := on_lst M rd rs hf
  unfold fPop1 at e1
  split at e1
  · rename_i j
    split at e1
    · rename_i hj
      obtain ⟨k, hk, e2⟩ := Option.bind_eq_some_iff.mp e1
      obtain ⟨y, hy, e3⟩ := Option.map_eq_some_iff.mp e2
      cases e3
      simp only [RepL, Rep] at ra
      obtain ⟨x1, t, ea, ry, et⟩ := ra
      subst ry et ea ex em
      obtain ⟨st, M'⟩ := lst_put M hi hH (r.eraseIdx k)
      obtain ⟨u, hu, ru⟩ := r.get hy
      exact mt_popAt pins s σ H _ _ v us Q I rx rv ⟨a, vs, j, k, u, rfl, rfl, hH, hj.1, hj.2, by rw [← r.length]; exact (ixN_seq hk).1, hu, q _ _ _ st M' (Rep.step st _ _ ru)⟩
    · cases e1
  · cases e1
theorem m_extend : MtR X "list.extend" (rMt X onExt) := by
  intro pins s σ H x xs v us Q I rx rv h
  obtain ⟨ι, m, d, ds, z, m', M, rd, rs, hf, q⟩ := h
  unfold onExt at hf
  split at hf
  · rename_i i e
    split at hf
    · rename_i ys zs hm hv
      split at hf
      · rename_i hl
        cases hf
        obtain ⟨a, ea, qa⟩ := rd
        obtain ⟨hi, vs, hH, r⟩ := M.live hm qa
        obtain ⟨x1, ex1, r1⟩ := rs.one
        obtain ⟨b, ws, eb, hb, rb⟩ := rn_lst (rn_view M r1 hv)
        subst ea ex1 eb
        cases rx
        obtain ⟨u, rfl, ru⟩ := Vals.one rv
        cases ru
        obtain ⟨_, its, n, w, hle, e⟩ := I.lstM hH
        obtain ⟨_, its2, n2, w2, e2⟩ := lst_rd I hb
        have hlen : its.length + its2.length ≤ 16777216 := by rw [← w.length, ← w2.length, ← r.length, ← rb.length]; exact hl
        have hs := sizeLine_eq
        have hsz : its.toArray.size + its2.toArray.size ≤ sizeLine := by rw [List.size_toArray, List.size_toArray]; omega
        have hlong : ¬ (!its.toArray.isEmpty && Builtin.List.listTooLong (its.toArray.size + its2.toArray.size)) = true := by
          rw [notLongL hsz, Bool.and_false]
          exact Bool.false_ne_true
        obtain ⟨st, M'⟩ := lst_put M hi hH (r.append rb)
        refine call_meets F.slot_list_extend ⟨_, e, rfl⟩ F.entry_list_extend (F.args_list_extend_2 _ _)
          (AutoSeq1.list_extend_list_list_0 a its.toArray n b its2.toArray n2 hlong (by rw [List.size_toArray]; omega) (by omega)) ⟨e, e2, ?_⟩
        refine ⟨.non, _, I.lset (its' := its ++ its2) hH e (by simp) (Vals.append w w2) ?_, rfl, q _ _ _ st M' rep_non⟩
        rw [List.length_append, ← r.length, ← rb.length]
        omega
      · cases hf
    · cases hf
  · cases hf
def sMt (f : D → List D → Mem → Option (P × Mem)) (fo : FE) (fr : FA) : FE := fun δ m => (fo δ m).bind fun d m1 => match view d m1 with
  | some (.lst _) => (fr δ m1).bind fun ds m2 => (match f d ds m2 with
    | some (z, m3) => .ok (.p z) m3
    | none => .bad)
  | _ => .bad
variable {name : Str} {id : String} {f : D → List D → Mem → Option (P × Mem)}
theorem mt_fin {σ : L2.St} {ι : Io} {H : Hp} {m : Mem} {Q : VK} {d : D} {ds : List D} {x : V} {xs : List V} (M : MRel (gx X) H ι m) (rd : RepD (gx X) H ι d x) (rs : RepDL (gx X) H ι ds xs)
    (h : ERP (gx X) W σ ι H (fun H ι => RepD (gx X) H ι) (match f d ds m with | some (z, m3) => .ok (.p z) m3 | none => .bad) Q) : rMt X f x xs H Q := by
  cases q : f d ds m with
  | none => rw [q] at h; exact h.elim
  | some r =>
    obtain ⟨z, m3⟩ := r
    rw [q] at h
    exact ⟨ι, m, d, ds, z, m3, M, rd, rs, q, fun v H' ι' s M' rz => h v H' ι' s M' rz⟩
theorem de_m1 (slot : Slot "list" name id) (hty : typeOf (.builtin id) = pure (.type "method_descriptor")) (hm : MtR X id (rMt X f)) (ho : DE X W o fo) (ha : DA X W (e :: es) fr)
    (hbase : attributeBase o name X.env (eval o X.env) = eval o X.env := by rfl)
    (hfew : ((backTo cpos (starEach (e :: es) X.env)).all (fun x => !x.1) && (backToKw cpos (keywordEach [] X.env)).all (fun x => x.1.isSome)
      && decide ((e :: es).length + ([] : List Keyword).length + (if ([] : List Keyword).isEmpty then 0 else 1) < 30)) = true := by rfl)
    (hline : (apos.endLine == cpos.line) = true := by rfl) (hs : starEach (e :: es) X.env = (false, eval e X.env) :: starEach es X.env := by rfl) (hplain : (backTo cpos (starEach es X.env)).any (·.1) = false := by rfl) :
    DE X W (.Call (.Attribute o name apos) (e :: es) [] cpos) (sMt f fo fr) :=
  (pe_bm PySem.F.plainAttrs_list slot hty hm ho ha hbase hfew hline hs hplain).conv fun σ H Q ⟨δ, m, ι, S, M, h⟩ => ⟨δ, m, ι, S, M, h.seq fun d m1 v H1 ι1 _ s1 M1 r1 h1 => by
    split at h1
    · rename_i ys hv
      obtain ⟨a, vs, ev, t, _⟩ := rn_lst (rn_view M1 r1 hv)
      refine ⟨by rw [ev]; exact .inl ⟨rfl, vs, .inl t⟩, δ, m1, ι1, S.step s1, M1, h1.seq fun ds m2 us H2 ι2 _ s2 M2 r2 h2 => mt_fin M2 (r1.step s2) r2 h2⟩
    · exact h1.elim⟩
theorem de_m0 (slot : Slot "list" name id) (hty : typeOf (.builtin id) = pure (.type "method_descriptor")) (hm : MtR X id (rMt X f)) (ho : DE X W o fo)
    (hbase : attributeBase o name X.env (eval o X.env) = eval o X.env := by rfl) (hline : (apos.endLine == cpos.line) = true := by rfl) :
    DE X W (.Call (.Attribute o name apos) [] [] cpos) (sMt f fo sNil) :=
  (pe_bm0 PySem.F.plainAttrs_list slot hty hm ho hbase hline).conv fun σ H Q ⟨δ, m, ι, S, M, h⟩ => ⟨δ, m, ι, S, M, h.seq fun d m1 v H1 ι1 _ s1 M1 r1 h1 => by
    split at h1
    · rename_i ys hv
      obtain ⟨a, vs, ev, t, _⟩ := rn_lst (rn_view M1 r1 hv)
      exact ⟨by rw [ev]; exact .inl ⟨rfl, vs, .inl t⟩, mt_fin (ds := []) (xs := []) M1 r1 rfl h1⟩
    · exact h1.elim⟩
end
end DL

set_option Elab.async false
set_option linter.all false
set_option maxRecDepth 100000
/-! The data layer, part n: functions. -/
namespace DL
open PySem PySem.Spec PyProof.Rows L2

/-! ### a call's end -/
/-- behind a body; n: as many objects were there at its start -/
def fin (n : Nat) (r : SR) : ER D := match r with
  | .rt (.p x) m => .ok (.p x) (m.take n)
  | .rt (.ref j) m => if j < n then .ok (.ref j) (m.take n) else (match m[j]? with
    | some (some o) => .ok (.ref n) (m.take n ++ [some o])
    | _ => .bad)
  | .nx _ m => .ok (.p .non) (m.take n)
  | .ex x _ m => .ex x (m.take n)
  | _ => .bad
/-- the names at a def's start -/
def starts (N : List Str) (ds : List D) : DS := ds ++ List.replicate (N.length - ds.length) .und
def fnS (N : List Str) (k : Nat) (fb : FS) : List D → Mem → ER D := fun ds m => if ds.length = k then fin m.length (fb (starts N ds) m) else .bad
section
variable {G : Gx} {H : Hp} {ι ι0 : Io} {H0 : Hp} {m : Mem} {n : Nat}
def Io.cut (ι : Io) (n : Nat) : Io := ⟨ι.at_.take n, ι.hid⟩
def Io.cut1 (ι : Io) (n : Nat) (a : Addr) : Io := ⟨ι.at_.take n ++ [some a], ι.hid⟩
theorem cut_mw : Mw ι H (ι.cut n) H := ⟨fun a u h _ => ⟨h.1, fun z => h.2.1 (List.mem_of_mem_take z), h.2.2⟩⟩
theorem cut1_mw {j : Nat} {a : Addr} (hj : ι.at_[j]? = some (some a)) : Mw ι H (ι.cut1 n a) H := ⟨fun b u h _ => ⟨h.1, fun z => by
  rcases List.mem_append.mp z with z | z
  · exact h.2.1 (List.mem_of_mem_take z)
  · have e : b = a := by simpa using z
    exact h.2.1 (by rw [e]; exact List.mem_of_getElem? hj), h.2.2⟩⟩
theorem cut_at {i : Nat} {o : Option Addr} (e : (ι.cut n).at_[i]? = some o) : i < n ∧ ι.at_[i]? = some o := by
  have e' : (ι.at_.take n)[i]? = some o := e
  rw [List.getElem?_take] at e'
  by_cases h : i < n
  · rw [if_pos h] at e'; exact ⟨h, e'⟩
  · rw [if_neg h] at e'; cases e'
theorem Step.cut (s : Step ι0 H0 ι H) (hn : n = ι0.at_.length) : Step ι0 H0 (ι.cut n) H where
  len := by
    show _ ≤ (ι.at_.take n).length
    rw [List.length_take, hn]
    have := s.len
    omega
  pre := fun i o e l => s.pre i o (cut_at e).2 l
  keep := s.keep
  new := fun b e n => s.new b (List.mem_of_mem_take e) n
  tbl := s.tbl
  hid := s.hid
theorem Step.cut1 (s : Step ι0 H0 ι H) (hn : n = ι0.at_.length) {j : Nat} {a : Addr} (hj : ι.at_[j]? = some (some a)) : Step ι0 H0 (ι.cut1 n a) H where
  len := by
    show _ ≤ (ι.at_.take n ++ [some a]).length
    rw [List.length_append, List.length_take, hn]
    have := s.len
    omega
  pre := fun i o e l => by
    have e' : (ι.at_.take n ++ [some a])[i]? = some o := e
    have := s.len
    rw [List.getElem?_append_left (by rw [List.length_take]; omega)] at e'
    exact s.pre i o (cut_at (ι := ι) (n := n) e').2 l
  keep := s.keep
  new := fun b e n => by
    rcases List.mem_append.mp e with e | e
    · exact s.new b (List.mem_of_mem_take e) n
    · have z : b = a := by simpa using e
      exact s.new b (by rw [z]; exact List.mem_of_getElem? hj) n
  tbl := s.tbl
  hid := s.hid
theorem MObj.mw {ι' : Io} {a : Addr} {o : MO} (s : Mw ι H ι' H) (h : MObj G H ι a o) : MObj G H ι' a o := by
  cases o with
  | lst xs => obtain ⟨vs, e, r⟩ := h; exact ⟨vs, e, RepL.mw s _ _ r⟩
  | dK ks xs => obtain ⟨vs, e, l, r⟩ := h; exact ⟨vs, e, l, RepL.mw s _ _ r⟩
  | dT ks xs => obtain ⟨o, ys, vs, e, t, e1, e2, r1, q, r2⟩ := h; exact ⟨o, ys, vs, e, t, e1, e2, RepL.mw s _ _ r1, q, RepL.mw s _ _ r2⟩
  | ins C ns ds => obtain ⟨dx, vs, e, l, r⟩ := h; exact ⟨dx, vs, e, l, RepL.mw s _ _ r⟩
theorem MRel.cut (M : MRel G H ι m) : MRel G H (ι.cut n) (m.take n) where
  len := by show (ι.at_.take n).length = _; rw [List.length_take, List.length_take, M.len]
  inj := fun i j a e1 e2 => M.inj i j a (cut_at e1).2 (cut_at e2).2
  obj := fun i a e => by
    obtain ⟨h, e⟩ := cut_at e
    obtain ⟨o, q, ob⟩ := M.obj i a e
    exact ⟨o, by rw [List.getElem?_take, if_pos h]; exact q, ob.mw cut_mw⟩
  gon := fun i e => by
    obtain ⟨h, e⟩ := cut_at e
    rw [List.getElem?_take, if_pos h]; exact M.gon i e
  hid := fun a e => let ⟨u, n⟩ := M.hid a e; ⟨u, fun z => n (List.mem_of_mem_take z)⟩
theorem MRel.cut1 (M : MRel G H ι m) {j : Nat} {a : Addr} {o : MO} (hn : n ≤ j) (hj : ι.at_[j]? = some (some a)) (ho : m[j]? = some (some o)) : MRel G H (ι.cut1 n a) (m.take n ++ [some o]) := by
  have hl : j < ι.at_.length := (List.getElem?_eq_some_iff.mp hj).1
  have hn' : n ≤ ι.at_.length := by omega
  have l1 : (ι.at_.take n).length = n := by rw [List.length_take]; omega
  have l2 : (m.take n).length = n := by rw [List.length_take, ← M.len]; omega
  have at1 : ∀ {i : Nat} {q : Option Addr}, (ι.cut1 n a).at_[i]? = some q → (i < n ∧ ι.at_[i]? = some q) ∨ (i = n ∧ q = some a) := fun {i q} e => by
    have e' : (ι.at_.take n ++ [some a])[i]? = some q := e
    by_cases hi : i < n
    · rw [List.getElem?_append_left (by rw [l1]; exact hi), List.getElem?_take, if_pos hi] at e'
      exact .inl ⟨hi, e'⟩
    · rw [List.getElem?_append_right (by rw [l1]; omega), l1] at e'
      cases z : i - n with
      | zero => rw [z] at e'; simp at e'; exact .inr ⟨by omega, e'.symm⟩
      | succ k => rw [z] at e'; simp at e'
  refine ⟨?_, fun i k b e1 e2 => ?_, fun i b e => ?_, fun i e => ?_, fun b e => ?_⟩
  · show (ι.at_.take n ++ [some a]).length = _
    rw [List.length_append, List.length_append, l1, l2]; rfl
  · rcases at1 e1 with ⟨h1, q1⟩ | ⟨h1, q1⟩
    · rcases at1 e2 with ⟨h2, q2⟩ | ⟨h2, q2⟩
      · exact M.inj i k b q1 q2
      · cases q2
        have := M.inj i j a q1 hj
        omega
    · rcases at1 e2 with ⟨h2, q2⟩ | ⟨h2, q2⟩
      · cases q1
        have := M.inj k j a q2 hj
        omega
      · omega
  · rcases at1 e with ⟨h1, q1⟩ | ⟨h1, q1⟩
    · obtain ⟨o', q, ob⟩ := M.obj i b q1
      exact ⟨o', by rw [List.getElem?_append_left (by rw [l2]; exact h1), List.getElem?_take, if_pos h1]; exact q, ob.mw (cut1_mw hj)⟩
    · cases q1
      obtain ⟨o', q, ob⟩ := M.obj j a hj
      rw [ho] at q
      cases q
      exact ⟨o, by rw [List.getElem?_append_right (by rw [l2]; omega), l2, h1]; simp, ob.mw (cut1_mw hj)⟩
  · rcases at1 e with ⟨h1, q1⟩ | ⟨h1, q1⟩
    · rw [List.getElem?_append_left (by rw [l2]; exact h1), List.getElem?_take, if_pos h1]; exact M.gon i q1
    · cases q1
  · obtain ⟨u, k⟩ := M.hid b e
    refine ⟨u, fun z => ?_⟩
    rcases List.mem_append.mp z with z | z
    · exact k (List.mem_of_mem_take z)
    · have e : b = a := by simpa using z
      exact k (by rw [e]; exact List.mem_of_getElem? hj)
theorem XRep.mw {ι' : Io} {x : P} {c : Value} {dd : Option Addr} (s : Mw ι H ι' H) (h : XRep G H ι x c dd) : XRep G H ι' x c dd := by
  obtain ⟨C, ns, xs, e, ec, r⟩ := h
  refine ⟨C, ns, xs, e, ec, ?_⟩
  rcases r with r | ⟨dx, vs, ed, o, l, r⟩
  · exact .inl r
  · exact .inr ⟨dx, vs, ed, o.mw s (fun ps z => by cases z), l, RepL.mw s _ _ r⟩
end

/-! ### a def's promise -/
/-- what is wished for of an exception, whatever the names -/
abbrev WZ (E : XK) : WX := fun c d _ H => E c d H
structure FnG (P : Program) (w : World) (K : PySem.W.Frag) (mg : Str → Option Value) (base : Heap) (k : Nat) (f : Addr) (fd : FuncData) (ps : List Str) (S : List D → Mem → ER D) : Prop where
  run : ∀ (A : Around) (outer : List Env) (s : Shared) (H : Hp) (args : Args) (us : List Value) (vs : List V) (Q : VK) (E : XK) (ds : List D) (m : Mem) (ι : Io) (σ : L2.St), Room k A → A.guards = some [] → Env0 P w K mg base A outer s H → BindsTo s fd args (ps.zip us) → Vals vs us →
    ds.length = ps.length → RepDL ⟨P, w, K⟩ H ι ds vs → MRel ⟨P, w, K⟩ H ι m → ERP ⟨P, w, K⟩ (WZ E) σ ι H (fun H ι => RepD ⟨P, w, K⟩ H ι) (S ds m) Q →
    codeAny (model P w) A (.call (.ref f) args) (CR (L2.CX P w) outer P w H s Q E) s
theorem FnG.mono {P : Program} {w : World} {K : PySem.W.Frag} {mg : Str → Option Value} {base : Heap} {j k : Nat} {f : Addr} {fd : FuncData} {ps : List Str} {S : List D → Mem → ER D} (F : FnG P w K mg base j f fd ps S) (h : j ≤ k) : FnG P w K mg base k f fd ps S :=
  ⟨fun A outer s H args us vs Q E ds m ι σ hr => F.run A outer s H args us vs Q E ds m ι σ (hr.mono h)⟩
theorem SRel.start {G : Gx} {H : Hp} {ι : Io} {N : List Str} {ds : List D} {vs : List V} (r : RepDL G H ι ds vs) (hl : ds.length ≤ N.length) : SRel G H ι (start N vs) (starts N ds) where
  len := by
    have := r.length
    unfold L2.start starts
    simp only [List.length_append, List.length_map, List.length_replicate]
    omega
  at_ := fun i d e n => by
    have hl := r.length
    unfold starts at e
    unfold L2.start
    by_cases hi : i < ds.length
    · rw [List.getElem?_append_left hi] at e
      obtain ⟨v, h1, h2⟩ := r.get e
      exact ⟨v, by rw [List.getElem?_append_left (by rw [List.length_map]; omega), List.getElem?_map, h1]; rfl, h2⟩
    · rw [List.getElem?_append_right (by omega), List.getElem?_replicate] at e
      split at e
      · cases e; exact absurd rfl n
      · cases e
/-- a def of the text, by its body -/
theorem fng_of {P : Program} {w : World} {K : PySem.W.Frag} {mg : Str → Option Value} {base : Heap} {k : Nat} {f : Addr} {name qual : Str} {params : Arguments} {body : List Stmt} {scope : Scope} {dV kV doc pm cdv ct oc : Value} {an od : Option Addr}
    {osl : Array (Option Value)} {N ps : List Str} {fb : FS} (lk : K.lookup f = some ⟨oc, od, .func (PySem.W.fnOf name qual params body scope dV kV doc pm an cdv ct), osl⟩) (hcd : PySem.W.codeIn K cdv qual = true) (S : FnScope N ps scope)
    (hbody : ∀ (A : Around) (outer : List Env) (s : Shared) (H : Hp) (E : XK), Room k (A.deeper (envOfC qual scope s.heap.objs.size f cdv)) → (A.deeper (envOfC qual scope s.heap.objs.size f cdv)).guards = some [] →
      DTs (cxOf (L2.CX P w) P w K mg base N qual scope f cdv A outer s H E) (WZ E) body fb) :
    FnG P w K mg base (k + 1) f (PySem.W.fnOf name qual params body scope dV kV doc pm an cdv ct) ps (fnS N ps.length fb) := by
  refine ⟨fun A outer s H args us vs Q E ds m ι σ hr hgd e0 hb r hl rd M h => ?_⟩
  have hlv : vs.length = ps.length := by rw [← rd.length]; exact hl
  have KX : K.In s.heap := e0.mod.kin.keeps fun b o e => (e0.bs b o e).1
  have lim : s.heap.NoLimit := e0.mod.nolimit.keeps fun b o e => (e0.bs b o e).1
  have hkind : ∀ y ∈ ps.zip us, scope.names.lookup y.1 = some .local ∨ (scope.names.lookup y.1 = some .cell ∧ ((cellsFrom (s.heap.objs.size + 1) scope.names []).lookup y.1).isSome = true) := fun ⟨n, v⟩ hy => by
    rcases S.par n (List.of_mem_zip hy).1 with q | q
    · exact .inl q
    · exact .inr ⟨q, PySem.W.cellsFrom_some _ _ _ (.inl q)⟩
  refine codeAny_call_function hr.depth (KX _ _ lk) rfl S.co S.gen rfl (PySem.W.codeRec_of KX hcd) (hb _ _ _ _ ?_)
  refine wpAny_newFunctionEnv_cells S.kind hkind fun env he s1 x => ?_
  subst he
  refine ⟨lim.keeps x.toInCall.keep, codeAny_func ?_⟩
  have ht := hbody A outer s H E (hr.deeper _) hgd
  have I : Inv (cxOf (L2.CX P w) P w K mg base N qual scope f cdv A outer s H E) [] (start N vs) H s1 := inv_start S hr.hd e0 hlv r x
  have hpl : ps.length ≤ N.length := by have := congrArg List.length S.pre; rw [List.length_take] at this; omega
  have S0 : SRel ⟨P, w, K⟩ H ι (start N vs) (starts N ds) := .start rd (by omega)
  unfold fnS at h
  rw [if_pos hl] at h
  have hq : SRP ⟨P, w, K⟩ (WZ E) ι H (fb (starts N ds) m) { nx := fun _ H' => Q .non H', rt := Q } := by
    cases q : fb (starts N ds) m with
    | nx δ1 m1 =>
      rw [q] at h
      exact fun σ' H' ι' st Mr Sr => h .non H' _ (st.cut M.len.symm) Mr.cut (by simp [RepD, Rep])
    | rt d m1 =>
      rw [q] at h
      intro v H' ι' st Mr rv
      cases d with
      | p x => exact h v H' _ (st.cut M.len.symm) Mr.cut (Rep.mw cut_mw _ _ rv)
      | und => exact rv.elim
      | ref j =>
        unfold fin at h
        dsimp only at h
        split at h
        · rename_i hj
          obtain ⟨a, ev, ha⟩ := rv
          refine h v H' _ (st.cut M.len.symm) Mr.cut ⟨a, ev, ?_⟩
          show (ι'.at_.take m.length)[j]? = _ ∨ (ι'.at_.take m.length)[j]? = _
          rw [List.getElem?_take, if_pos hj]
          exact ha
        · rename_i hj
          split at h
          · rename_i o ho
            obtain ⟨a, ev, ha⟩ := rv
            obtain ⟨hi, ob⟩ := Mr.live ho ha
            have hle : m.length ≤ j := by omega
            refine h v H' _ (st.cut1 M.len.symm hi) (Mr.cut1 hle hi ho) ⟨a, ev, .inl ?_⟩
            have hl2 : j < ι'.at_.length := (List.getElem?_eq_some_iff.mp hi).1
            show (ι'.at_.take m.length ++ [some a])[m.length]? = _
            rw [List.getElem?_append_right (by rw [List.length_take]; omega)]
            have : m.length - (ι'.at_.take m.length).length = 0 := by rw [List.length_take]; omega
            rw [this]; rfl
          · exact h.elim
    | ex x δ1 m1 =>
      rw [q] at h
      exact fun c dd σ' H' ι' st Mr Sr xr => h c dd H' _ (st.cut M.len.symm) Mr.cut (xr.mw cut_mw)
    | bk δ1 m1 => rw [q] at h; exact h.elim
    | ct δ1 m1 => rw [q] at h; exact h.elim
    | bad => rw [q] at h; exact h.elim
  refine wpAny_mono (ht.run [] s1 (start N vs) H _ I ⟨starts N ds, m, ι, S0, M, hq⟩) (fun fl s' hs => ?_) fun e s' hs => hs
  have fin : ∀ {σ' : L2.St} {H' : Hp} {v : V} {u : Value}, Inv (cxOf (L2.CX P w) P w K mg base N qual scope f cdv A outer s H E) [] σ' H' s' → RelV v u → Q v H' → CE outer P w H s Q u s' :=
    fun {σ' H' v u} J rv q => ⟨v, H', J.os, J.bare, J.base, J.hok, rv, q⟩
  cases fl with
  | ret u =>
    obtain ⟨v, σ', H', J, rv, q⟩ := hs
    exact fin J rv q
  | next =>
    obtain ⟨σ', H', J, q⟩ := hs
    exact fin (v := V.non) (u := Value.none) J rfl q
  | brk =>
    obtain ⟨_, _, _, q⟩ := hs
    exact False.elim q
  | cont =>
    obtain ⟨_, _, _, q⟩ := hs
    exact False.elim q

/-! ### calls -/
def sFn (S : List D → Mem → ER D) (fr : FA) : FE := fun δ m => (fr δ m).bind fun ds m => S ds m
section
variable {X : Cx} {W : WX} {k : Nat} {f : Addr} {fd : FuncData} {ps : List Str} {S : List D → Mem → ER D} {x : Str} {p pos : Pos} {e : Expr} {es : List Expr} {fr : FA}
/-- nothing answers what is not there -/
def Lens (S : List D → Mem → ER D) (n : Nat) : Prop := ∀ ds m, ds.length ≠ n → S ds m = .bad
theorem lens_fnS {N : List Str} {k : Nat} {fb : FS} : Lens (fnS N k fb) k := fun ds m h => by unfold fnS; rw [if_neg h]
theorem run_fng {pins : List (Addr × Obj)} {σ : L2.St} {H : Hp} {s : Shared} {Q : VK} {us : List Value} {vs : List V} {ds : List D} {m : Mem} {ι : Io} (F : FnG X.prog X.w X.K X.mg X.base k f fd ps S) (L : Lens S ps.length) (hr : Room k X.A) (hgd : X.A.guards = some []) (hb : Binds X.K fd ps []) (tk : Takes X W)
    (I : Inv X pins σ H s) (r : Vals vs us) (rd : RepDL (gx X) H ι ds vs) (M : MRel (gx X) H ι m) (h : ERP (gx X) W σ ι H (fun H ι => RepD (gx X) H ι) (S ds m) Q) : wpAny (model X.prog X.w) X.A (call (.ref f) us) (EP X pins σ Q) X.xe s := by
  have hl : ds.length = ps.length := by
    by_cases hl : ds.length = ps.length
    · exact hl
    · rw [L ds m hl] at h; exact h.elim
  have hl2 : (us ++ []).length = ps.length := by rw [List.append_nil, ← r.length, ← rd.length]; exact hl
  have hb' := hb s us I.kIn hl2
  rw [List.append_nil] at hb'
  have h' : ERP (gx X) (WZ (WE W σ)) σ ι H (fun H ι => RepD (gx X) H ι) (S ds m) Q := by
    cases q : S ds m with
    | ok a m1 => rw [q] at h; exact h
    | ex x m1 => rw [q] at h; exact h
    | bad => rw [q] at h; exact h
  refine wpAny_call (codeAny_mono (F.run X.A X.stack s H ⟨us, []⟩ us vs Q (WE W σ) ds m ι σ hr hgd I.env0 hb' r hl rd M h') fun r s' hq => ?_)
  cases r with
  | error e => exact passAt tk σ pins H s e s' I hq
  | ok fl =>
    cases fl with
    | ret u => exact I.after hq
    | next => exact False.elim hq
    | brk => exact False.elim hq
    | cont => exact False.elim hq
theorem de_call (F : FnG X.prog X.w X.K X.mg X.base k f fd ps S) (L : Lens S ps.length) (hr : Room k X.A) (hgd : X.A.guards = some []) (hm : X.mg x = some (.ref f)) (hk : PySem.W.keepIn X.K (.ref f) = true) (hb : Binds X.K fd ps []) (tk : Takes X W)
    (ha : DA X W (e :: es) fr) (hg : Gl X x := by rfl) (hdb : (x == ("__debug__" : Str)) = false := by decide) (he : starEach (e :: es) X.env = (false, eval e X.env) :: starEach es X.env := by rfl) (hpl : (backTo pos (starEach es X.env)).any (·.1) = false := by rfl) :
    DE X W (.Call (.Name x p) (e :: es) [] pos) (sFn S fr) := by
  refine ⟨fun pins s σ H Q I ⟨δ, m, ι, Sr, M, h⟩ => ?_⟩
  refine wpAny_Call_Name_kw (ld_glob I hg hm ?_ hdb)
  refine PySem.W.callWith_K (h₀ := X.base) I.ok.mod.kin hk (thn (ha.run pos pins s σ H (fun vs H1 => ∃ ds m1 ι1, RepDL (gx X) H1 ι1 ds vs ∧ MRel (gx X) H1 ι1 m1 ∧ ERP (gx X) W σ ι1 H1 (fun H ι => RepD (gx X) H ι) (S ds m1) Q) I ⟨δ, m, ι, Sr, M, ?_⟩) fun us s1 ⟨vs, H1, I1, r, ds, m1, ι1, rd, M1, q⟩ => ⟨I1.kIn, ?_⟩) he hpl
  · exact h.seq fun ds m1 vs H1 ι1 _ s1 M1 r1 h1 => ⟨ds, m1, ι1, r1, M1, h1⟩
  · exact run_fng F L hr hgd hb tk I1 r rd M1 q
theorem de_call0 (F : FnG X.prog X.w X.K X.mg X.base k f fd ps S) (L : Lens S ps.length) (hr : Room k X.A) (hgd : X.A.guards = some []) (hm : X.mg x = some (.ref f)) (hk : PySem.W.keepIn X.K (.ref f) = true) (hb : Binds X.K fd ps []) (tk : Takes X W)
    (hg : Gl X x := by rfl) (hdb : (x == ("__debug__" : Str)) = false := by decide) : DE X W (.Call (.Name x p) [] [] pos) (sFn S sNil) := by
  refine ⟨fun pins s σ H Q I ⟨δ, m, ι, Sr, M, h⟩ => ?_⟩
  refine wpAny_Call_Name_kw (ld_glob I hg hm ?_ hdb)
  exact PySem.W.callWith_K0 I.kIn hk (run_fng (us := []) (vs := []) (ds := []) F L hr hgd hb tk I .nil rfl M h)
end
end DL

set_option Elab.async false
set_option linter.all false
set_option maxRecDepth 100000
/-! The data layer, part o: a law's defs, constants, its end. -/
namespace DL
open PySem PySem.Spec PyProof.Rows L2

/-- a def that may be called by its name, n arguments -/
def Callee (P : Program) (w : World) (K : PySem.W.Frag) (mg : Str → Option Value) (base : Heap) (k : Nat) (x : Str) (n : Nat) (S : List D → Mem → ER D) : Prop :=
  ∃ (f : Addr) (fd : FuncData) (ps : List Str), FnG P w K mg base k f fd ps S ∧ ps.length = n ∧ Lens S n ∧ mg x = some (.ref f) ∧ PySem.W.keepIn K (.ref f) = true ∧ Binds K fd ps []
theorem Callee.mono {P : Program} {w : World} {K : PySem.W.Frag} {mg : Str → Option Value} {base : Heap} {j k n : Nat} {x : Str} {S : List D → Mem → ER D} (C : Callee P w K mg base j x n S) (h : j ≤ k) : Callee P w K mg base k x n S :=
  let ⟨f, fd, ps, F, r⟩ := C; ⟨f, fd, ps, F.mono h, r⟩
section
variable {X : Cx} {W : WX} {k n : Nat} {S : List D → Mem → ER D} {x : Str} {p pos : Pos} {e : Expr} {es : List Expr} {fr : FA}
theorem de_fn (C : Callee X.prog X.w X.K X.mg X.base k x n S) (hr : Room k X.A) (hgd : X.A.guards = some []) (tk : Takes X W)
    (ha : DA X W (e :: es) fr) (hg : Gl X x := by rfl) (hdb : (x == ("__debug__" : Str)) = false := by decide) (he : starEach (e :: es) X.env = (false, eval e X.env) :: starEach es X.env := by rfl) (hpl : (backTo pos (starEach es X.env)).any (·.1) = false := by rfl) :
    DE X W (.Call (.Name x p) (e :: es) [] pos) (sFn S fr) := by
  obtain ⟨f, fd, ps, F, hn, L, hm, hk, hb⟩ := C
  subst hn
  exact de_call F L hr hgd hm hk hb tk ha hg hdb he hpl
theorem de_fn0 (C : Callee X.prog X.w X.K X.mg X.base k x n S) (hr : Room k X.A) (hgd : X.A.guards = some []) (tk : Takes X W) (hg : Gl X x := by rfl) (hdb : (x == ("__debug__" : Str)) = false := by decide) :
    DE X W (.Call (.Name x p) [] [] pos) (sFn S sNil) := by
  obtain ⟨f, fd, ps, F, hn, L, hm, hk, hb⟩ := C
  subst hn
  exact de_call0 F L hr hgd hm hk hb tk hg hdb
end
theorem room_hu {k : Nat} {A : Around} (r : Room k A) : A.units + 110 < cLine := by
  have := r.un
  omega
/-! ### facts by names -/
structure Zf (fa : List He.Fa) (fn : List He.DefD) (ex : PySem.W.Frag → Bool) (K : PySem.W.Frag) (mg : Str → Option Value) : Prop where
  ok : ∀ f ∈ fa, f.ok K = true
  df : ∀ d ∈ fn, ∃ fd, FunD K d.name d.qual d.params d.body d.scope (d.dvs K) (d.kws K) (He.fAd K d.at_) fd
  ex : ex K = true
  gr : ∃ h : Heap, K.In h ∧ h.Ns mainGlobals mg
section
variable {fa : List He.Fa} {fn : List He.DefD} {ex : PySem.W.Frag → Bool} {K : PySem.W.Frag} {mg : Str → Option Value} {P : Program} {w : World} {base : Heap}
theorem Zf.at_ (Z : Zf fa fn ex K mg) (i : Nat) {f : He.Fa} (h : fa[i]? = some f) : f.ok K = true := Z.ok f (List.mem_of_getElem? h)
theorem Zf.fr (Z : Zf fa fn ex K mg) (i : Nat) {x : Str} (h : fa[i]? = some (.free x) := by rfl) : mg x = none := let ⟨_, X, G⟩ := Z.gr; He.free_ok X G (Z.at_ i h)
theorem Zf.gl (Z : Zf fa fn ex K mg) (i : Nat) {x : Str} (h : fa[i]? = some (.glo x) := by rfl) : mg x = some (.ref (He.ga K x)) := let ⟨_, X, G⟩ := Z.gr; He.glo_ok X G (Z.at_ i h)
theorem Zf.int {X : Cx} (Z : Zf fa fn ex X.K X.mg) (i : Nat) {x : Str} {j : Int} (h : fa[i]? = some (.int x j) := by rfl) : KonV X x (.int j) := by
  obtain ⟨hh, Y, G⟩ := Z.gr
  obtain ⟨t, e⟩ := He.int_ok Y G (Z.at_ i h)
  exact ⟨_, .int j, e, ⟨t, rfl⟩, fun H ι => rep_int⟩
theorem Zf.str {X : Cx} (Z : Zf fa fn ex X.K X.mg) (i : Nat) {x z : Str} (h : fa[i]? = some (.str x z) := by rfl) : KonV X x (.str z) := by
  obtain ⟨hh, Y, G⟩ := Z.gr
  obtain ⟨t, e⟩ := He.str_ok Y G (Z.at_ i h)
  exact ⟨_, .str z, e, ⟨t, rfl⟩, fun H ι => rep_str⟩
theorem rep_strs {G : Gx} {H : Hp} {ι : Io} : ∀ zs : List Str, RepL G H ι (zs.map DL.P.str) (zs.map V.str)
  | [] => .nil
  | z :: zs => .cons rep_str (rep_strs zs)
theorem dv_strs (K : PySem.W.Frag) (zs : List Str) : (zs.map He.Dv.str).map (He.Dv.v K) = zs.map V.str := by rw [List.map_map]; rfl
/-- a scalar of the module -/
def dvP : DL.P → He.Dv
  | .bl b => .bl b
  | .int i => .int i
  | .str z => .str z
  | _ => .non
def scal : DL.P → Bool
  | .non => true
  | .bl _ => true
  | .int _ => true
  | .str _ => true
  | _ => false
theorem rep_scal {G : Gx} {H : Hp} {ι : Io} : ∀ {zs : List DL.P}, zs.all scal = true → RepL G H ι zs ((zs.map dvP).map (He.Dv.v G.K))
  | [], _ => .nil
  | z :: zs, h => by
    rw [List.all_cons, Bool.and_eq_true] at h
    refine .cons ?_ (rep_scal h.2)
    cases z with
    | non => exact rep_non
    | bl b => exact rep_bl
    | int b => exact rep_int
    | str b => exact rep_str
    | _ => cases h.1
/-- no tuple of the written part has a dict -/
def tupsPlain (K : PySem.W.Frag) : Prop := ∀ a o, K.lookup a = some o → o.cls = .type "tuple" → o.dict = none
theorem noLists_tup {K : PySem.W.Frag} (h : (K.all fun q => match q.2.cls with
  | .type c => decide (c ≠ "list") && (decide (c ≠ "tuple") || q.2.dict.isNone)
  | _ => true) = true) : tupsPlain K := fun a o e z => by
  have := List.all_eq_true.mp h (a, o) (He.lookup_mem e)
  rw [z] at this
  have t : (decide ("tuple" ≠ "tuple") || o.dict.isNone) = true := (Bool.and_eq_true_iff.mp (show (decide ("tuple" ≠ "list") && (decide ("tuple" ≠ "tuple") || o.dict.isNone)) = true from this)).2
  simpa using t
/-- a tuple of scalars -/
theorem Zf.flat {X : Cx} (Z : Zf fa fn ex X.K X.mg) (i : Nat) {x : Str} {zs : List DL.P} (tp : tupsPlain X.K) (hs : zs.all scal = true) (ht : He.tupB X.K x (zs.map dvP) = true) (h : fa[i]? = some (.glo x) := by rfl) : KonV X x (.tup zs) := by
  refine ⟨_, .ref (He.ga X.K x), Z.gl i h, rfl, fun H ι => ?_⟩
  unfold He.tupB at ht
  cases q : X.K.lookup (He.ga X.K x) with
  | none =>
    rw [q] at ht
    cases ht
  | some o =>
    obtain ⟨oc, od, dt, osl⟩ := o
    rw [q] at ht
    cases oc with
    | type c =>
      cases dt with
      | seq its n =>
        obtain ⟨h1, h2⟩ := He.ba (show (decide (c = "tuple") && (decide (its.size ≤ sizeLine) && He.relAll ((zs.map dvP).map (He.Dv.v X.K)) its.toList)) = true from ht)
        obtain ⟨h3, h4⟩ := He.ba h2
        have hc : Value.type c = .type "tuple" := congrArg Value.type (of_decide_eq_true h1)
        exact rep_tup0 (.inr ⟨_, its, n, q, hc, tp _ _ q hc, rfl, of_decide_eq_true h3, He.relAll_ok h4⟩) (rep_scal hs)
      | _ => cases ht
    | _ => cases dt <;> cases ht
/-- a tuple of texts -/
theorem Zf.strs {X : Cx} (Z : Zf fa fn ex X.K X.mg) (i : Nat) {x : Str} {zs : List Str} (tp : tupsPlain X.K) (ht : He.tupB X.K x (zs.map He.Dv.str) = true) (h : fa[i]? = some (.glo x) := by rfl) : KonV X x (.tup (zs.map DL.P.str)) := by
  refine ⟨_, .ref (He.ga X.K x), Z.gl i h, rfl, fun H ι => ?_⟩
  have ht2 := ht
  unfold He.tupB at ht
  cases q : X.K.lookup (He.ga X.K x) with
  | none =>
    rw [q] at ht
    cases ht
  | some o =>
    obtain ⟨oc, od, dt, osl⟩ := o
    rw [q] at ht
    cases oc with
    | type c =>
      cases dt with
      | seq its n =>
        obtain ⟨h1, h2⟩ := He.ba (show (decide (c = "tuple") && (decide (its.size ≤ sizeLine) && He.relAll ((zs.map He.Dv.str).map (He.Dv.v X.K)) its.toList)) = true from ht)
        obtain ⟨h3, h4⟩ := He.ba h2
        refine rep_tup0 (vs := zs.map V.str) (.inr ⟨_, its, n, q, congrArg Value.type (of_decide_eq_true h1), tp _ _ q (congrArg Value.type (of_decide_eq_true h1)), rfl, of_decide_eq_true h3, ?_⟩) (rep_strs zs)
        rw [← dv_strs X.K zs]
        exact He.relAll_ok h4
      | _ => cases ht
    | _ => cases dt <;> cases ht
/-- a def of the text -/
theorem Zf.dfn (Z : Zf fa fn ex K mg) (i j : Nat) {d : He.DefD} {N ps : List Str} {k n : Nat} {fb : FS} {x : Str} (hd : fn[i]? = some d) (hx : d.at_ = (x, none)) (hn : ps.length = n) (S : FnScope N ps d.scope)
    (hb : ∀ (kV doc pm : Value) (an : Option Addr) (cdv ct : Value) (us : List Value), us.length = ps.length → bindArgs (PySem.W.fnOf d.name d.qual d.params d.body d.scope .none kV doc pm an cdv ct) ⟨us, []⟩ = pure (ps.zip us))
    (hbody : ∀ (f : Addr) (cdv : Value) (A : Around) (outer : List Env) (s : Shared) (H : Hp) (E : XK), Room k (A.deeper (envOfC d.qual d.scope s.heap.objs.size f cdv)) → (A.deeper (envOfC d.qual d.scope s.heap.objs.size f cdv)).guards = some [] →
      DTs (cxOf (L2.CX P w) P w K mg base N d.qual d.scope f cdv A outer s H E) (WZ E) d.body fb)
    (hD : d.dfl = [] := by rfl) (hK : d.kwd = [] := by rfl) (hg : fa[j]? = some (.glo x) := by rfl) : Callee P w K mg base (k + 1) x n (fnS N n fb) := by
  obtain ⟨fd, F⟩ := Z.df d (List.mem_of_getElem? hd)
  have e1 : d.dvs K = [] := by unfold He.DefD.dvs; rw [hD]; rfl
  have e2 : d.kws K = [] := by unfold He.DefD.kws; rw [hK]; rfl
  rw [e1, e2] at F
  have e3 : He.fAd K d.at_ = He.ga K x := by rw [hx]; rfl
  rw [e3] at F
  have B : Binds K fd ps [] := F.bindsN hb
  obtain ⟨oc, od, dV, kV, doc, pm, an, cdv, ct, osl, efd, lk, hcd, _, _⟩ := id F.ex
  subst hn
  refine ⟨_, fd, ps, ?_, rfl, lens_fnS, Z.gl j hg, F.kp, B⟩
  subst efd
  exact fng_of lk hcd S fun A outer s H E hr hgd => hbody _ cdv A outer s H E hr hgd
end

theorem fng_funD {P : Program} {w : World} {K : PySem.W.Frag} {mg : Str → Option Value} {base : Heap} {name qual : Str} {params : Arguments} {body : List Stmt} {scope : Scope} {dvs : List V} {kws : List (Str × V)} {f : Addr} {fd : FuncData} {N ps : List Str} {k : Nat} {fb : FS} (F : FunD K name qual params body scope dvs kws f fd) (S : FnScope N ps scope)
    (hbody : ∀ (cdv : Value) (A : Around) (outer : List Env) (s : Shared) (H : Hp) (E : XK), Room k (A.deeper (envOfC qual scope s.heap.objs.size f cdv)) → (A.deeper (envOfC qual scope s.heap.objs.size f cdv)).guards = some [] →
      DTs (cxOf (L2.CX P w) P w K mg base N qual scope f cdv A outer s H E) (WZ E) body fb) : FnG P w K mg base (k + 1) f fd ps (fnS N ps.length fb) := by
  obtain ⟨oc, od, dV, kV, doc, pm, an, cdv, ct, osl, efd, lk, hcd, _, _⟩ := F.ex
  subst efd
  exact fng_of lk hcd S fun A outer s H E hr hgd => hbody cdv A outer s H E hr hgd

/-! ### the end -/
theorem rep_ints {G : Gx} {H : Hp} {ι : Io} : ∀ ns : List Int, RepL G H ι (ns.map DL.P.int) (ns.map V.int)
  | [] => .nil
  | n :: ns => .cons rep_int (rep_ints ns)
theorem law_callG {P : Program} {w : World} {K : PySem.W.Frag} {mg mb : Str → Option Value} {k : Nat} {fa a : Addr} {fd : FuncData} {x : Str} {S : List D → Mem → ER D} {s₁ : Shared} {vs : List Value} {ns : List Int}
    (KX : K.In s₁.heap) (hns : s₁.heap.Ns mainGlobals mg) (hb : s₁.heap.Ns builtinsNs mb) (hbb : ∀ x : Str, x ≠ "__name__" → mb x = bootBuiltins x) (hlim : s₁.heap.NoLimit) (hg : s₁.gens = #[])
    (ha : s₁.heap.get? a = some { cls := .type "list", data := .seq vs.toArray }) (hi : IntsAre vs ns) (hl : ns.length ≤ sizeLine) (hr : Room k callerA)
    (hnl : ∀ o, K.lookup a = some o → o.cls ≠ .type "list")
    (F : ∀ base : Heap, K.In base → base.Ns mainGlobals mg → FnG P w K mg base k fa fd [x] S) (hbind : ∀ (s : Shared) (u : Value), BindsTo s fd ⟨[u], []⟩ [(x, u)])
    (hS : S [.p (.lst (ns.map DL.P.int))] [] = .ok (.p (.bl true)) []) :
    codeAny (model P w) callerA (.call (.ref fa) ⟨[.ref a], []⟩) (fun r s' => r = .ok (.ret (.bool true)) ∧ OldK s₁.heap s'.heap ∧ s'.os = s₁.os ∧ AllBare s'.gens) s₁ := by
  have rv := vals_ints hi
  have lenV := hi.length
  have hk : K.lookup a = none := by
    cases e : K.lookup a with
    | none => rfl
    | some o =>
      have q := KX a o e
      rw [ha] at q
      cases q
      exact absurd rfl (hnl _ e)
  obtain ⟨H, hH⟩ : ∃ H : Hp, H = fun b => if b = a then some (HO.frz { cls := .type "list", data := .seq vs.toArray } (.lst (ns.map V.int))) else none := ⟨_, rfl⟩
  have Ha : H a = some (.frz { cls := .type "list", data := .seq vs.toArray } (.lst (ns.map V.int))) := by rw [hH]; exact if_pos rfl
  have Hn : ∀ b, b ≠ a → H b = none := fun b hb => by rw [hH]; exact if_neg hb
  have hok : HOk P w H s₁.heap := fun b u z => by
    by_cases hb : b = a
    · subst hb
      rw [Ha] at z
      cases z
      exact ⟨ha, by rw [List.length_map]; exact hl, vs, _, rv, ha⟩
    · rw [Hn b hb] at z; cases z
  have base_of : ∀ {b : Addr} {o : Obj}, s₁.heap.get? b = some o → H b = none → (hidT s₁.heap H).get? b = some o := fun e n => hidT_get e n
  have noA : ∀ {b : Addr} {o : Obj} {es : Array DictEntry} {ep : Nat}, s₁.heap.get? b = some o → o.data = .dict es ep → H b = none := fun {b o es ep} e d => by
    refine Hn b fun z => ?_
    subst z
    rw [ha] at e; cases e
    have d' : Data.seq vs.toArray _ = Data.dict es ep := d
    cases d'
  have nsK : ∀ {b : Addr} {m : Str → Option Value}, s₁.heap.Ns b m → (hidT s₁.heap H).Ns b m := fun {b m} ⟨o, es, ep, e, d, r⟩ => ⟨o, es, ep, base_of e (noA e d), d, r⟩
  have hKb : K.In (hidT s₁.heap H) := fun b o e => base_of (KX b o e) (Hn b fun z => by rw [z, hk] at e; cases e)
  have hM : Mod K mg (hidT s₁.heap H) := ⟨hKb, nsK hns, ⟨mb, nsK hb, hbb⟩, let ⟨mc, h1, h2⟩ := hlim; ⟨mc, nsK h1, h2⟩⟩
  have e0 : Env0 P w K mg (hidT s₁.heap H) callerA [] s₁ H := ⟨rfl, hM, fun b o e => of_hidT e, Nat.le_of_eq (hidT_size _ _), trivial, fun b hb => absurd (show b ∈ ([] : List Addr) from hb) (by simp), hok, .of_eq hg⟩
  have M0 : MRel ⟨P, w, K⟩ H ⟨[], []⟩ [] := ⟨rfl, fun i j a e => by simp at e, fun i a e => by simp at e, fun i e => by simp at e, fun a e => by cases e⟩
  have rd : RepDL ⟨P, w, K⟩ H ⟨[], []⟩ [.p (.lst (ns.map DL.P.int))] [.ref a] := by
    refine ⟨.ref a, [], rfl, ?_, rfl⟩
    simp only [RepD, Rep]
    exact ⟨a, ns.map V.int, rfl, .inr ⟨_, Ha, by simp [Io.fre]⟩, rep_ints ns⟩
  refine codeAny_mono ((F _ hKb (nsK hns)).run callerA [] s₁ H ⟨[.ref a], []⟩ [.ref a] [.ref a] (fun v _ => v = .bl true) (fun _ _ _ => False) _ [] ⟨[], []⟩ [] hr rfl e0 (hbind s₁ (.ref a)) (.cons rfl .nil) rfl rd M0 ?_) fun r s' h => ?_
  · rw [hS]
    intro v H' ι' _ _ r
    simpa [RepD, Rep] using r
  · cases r with
    | error e =>
      obtain ⟨_, _, _, _, _, _, _, _, _, _, _, _, z⟩ := (show L2.CX P w [] H s₁ (fun _ _ _ => False) e s' from h)
      exact z.elim
    | ok fl =>
      cases fl with
      | next => exact False.elim h
      | brk => exact False.elim h
      | cont => exact False.elim h
      | ret u =>
        obtain ⟨v, H', os, bare, un, hok', r', q⟩ := h
        have q' : v = .bl true := q
        subst q'
        obtain rfl : u = Value.bool true := r'
        refine ⟨rfl, OldK.of_keep fun b o e => ?_, os, bare⟩
        by_cases hb : b = a
        · subst hb
          have z2 := un.frzs b _ _ Ha
          obtain ⟨e1, _⟩ := hok b _ Ha
          obtain ⟨e2, _⟩ := hok' b _ z2
          rw [e] at e1; cases e1
          exact e2
        · exact un.keep b o e (Hn b hb) (by intro z; exact absurd (show b ∈ ([] : List Addr) from z) (by simp)) (by simp)
/-- no list stands in the written part; its tuples are plain -/
def noLists (K : PySem.W.Frag) : Bool := K.all fun q => match q.2.cls with
  | .type c => decide (c ≠ "list") && (decide (c ≠ "tuple") || q.2.dict.isNone)
  | _ => true
theorem noLists_ok {K : PySem.W.Frag} (h : noLists K = true) {a : Addr} {o : Obj} (e : K.lookup a = some o) : o.cls ≠ .type "list" := fun z => by
  have := List.all_eq_true.mp h (a, o) (He.lookup_mem e)
  rw [z] at this
  exact absurd (of_decide_eq_true (Bool.and_eq_true_iff.mp (show (decide ("list" ≠ "list") && _) = true from this)).1) (by simp)
theorem walk_ofG {l : PySem.W.OpenLaw} {n k : Nat} {q : Program} {loose : List Str} {XP : (Str → Option Value) → Heap → Prop} {YP : World → Heap → Prop} {d : DefRec} {x : Str} {S : List D → Mem → ER D}
    (hn : l.most = some n) (hn2 : n ≤ sizeLine) (hdf : d.params.defaults = []) (hr : Room k callerA)
    (F : ∀ (w : World) (mg : Str → Option Value) (fa : Addr) (h : Heap), YP w h → h.Ns mainGlobals mg → mg d.name = some (.ref fa) →
      ∃ (K : PySem.W.Frag) (fd : FuncData), K.In h ∧ noLists K = true ∧ (∀ (s : Shared) (u : Value), BindsTo s fd ⟨[u], []⟩ [(x, u)]) ∧
        ∀ base : Heap, K.In base → base.Ns mainGlobals mg → FnG l.prog w K mg base k fa fd [x] S)
    (hS : ∀ ns : List Int, ns.length ≤ n → S [.p (.lst (ns.map DL.P.int))] [] = .ok (.p (.bl true)) []) :
    PySem.W.WalkO q loose XP YP l.row.toRowW d [] (fun f vs => PySem.call f vs) := by
  refine Att.attach_call hn hdf fun w s₀ s₁ mg mb fa o pm cd doc a vs ns G Y ho hd hcd hmg hobj hints hlen hg => ?_
  obtain ⟨K, fd, KX, hnl, hb, hF⟩ := F w mg fa _ Y G.T.g hmg
  exact law_callG KX G.T.g G.T.b G.T.builtins G.T.nolimit hg hobj hints (Nat.le_trans hlen hn2) hr (fun o e => noLists_ok hnl e) hF hb (hS ns hlen)
end DL

set_option Elab.async false
set_option linter.all false
set_option maxRecDepth 100000
/-! The data layer, part p: displays of dicts, list(range(..)), comprehensions that are written to, tests in a row. -/
namespace DL
open PySem PySem.Spec PyProof.Rows L2

/-! ### a hidden object becomes one of ours -/
section
variable {G : Gx} {D : Addr} {ι1 ι ι' : Io} {H1 H H' : Hp} {m m' : Mem}
/-- the state while an object at D is not told -/
structure KH (G : Gx) (D : Addr) (ι1 : Io) (H1 : Hp) (ι : Io) (H : Hp) (m : Mem) : Prop where
  hd : ι.hid = D :: ι1.hid
  st : Step ι1 H1 ⟨ι.at_, ι1.hid⟩ H
  mr : MRel G H ι m
theorem KC.kh {acc : List P} (k : KC G D ι1 H1 ι H m acc) : KH G D ι1 H1 ι H m := ⟨k.hd, k.st, k.mr⟩
theorem KH.start {u : HO} (M : MRel G H1 ι1 m) (hD : H1 D = none) : KH G D ι1 H1 (ι1.hide D) (upd H1 D u) m where
  hd := rfl
  st := .same (Same.upd hD)
  mr := by
    have s : Mv ι1 H1 (ι1.hide D) (upd H1 D u) := .hide hD
    refine ⟨M.len, M.inj, fun i a e => ?_, M.gon, fun a e => ?_⟩
    · obtain ⟨o, q, ob⟩ := M.obj i a e
      obtain ⟨w, hu⟩ := ob.some_
      exact ⟨o, q, ob.toM s (upd_ne (ne_of_none hu hD))⟩
    · rcases List.mem_cons.mp e with e | e
      · subst e
        exact ⟨⟨_, upd_same⟩, (M.fresh hD).1⟩
      · obtain ⟨⟨w, hu⟩, n⟩ := M.hid a e
        exact ⟨⟨w, by rw [upd_ne (ne_of_none hu hD)]; exact hu⟩, n⟩
theorem KH.inh (k : KH G D ι1 H1 ι H m) : D ∈ ι.hid := by rw [k.hd]; exact List.mem_cons_self
theorem KH.step (k : KH G D ι1 H1 ι H m) (s : Step ι H ι' H') (M : MRel G H' ι' m') : KH G D ι1 H1 ι' H' m' := ⟨s.hid.trans k.hd, k.st.trans (Step.unhid (a := ι.hid) (b := ι'.hid) s), M⟩
/-- told, as the last one -/
theorem KH.adopt {u : HO} {o : MO} (k : KH G D ι1 H1 ι H m) (hD : H1 D = none) (ob : MObj G (upd H D u) ⟨ι.at_ ++ [some D], ι1.hid⟩ D o) (hn : D ∉ ι1.hid) :
    MRel G (upd H D u) ⟨ι.at_ ++ [some D], ι1.hid⟩ (m ++ [some o]) ∧ Step ι1 H1 ⟨ι.at_ ++ [some D], ι1.hid⟩ (upd H D u) := by
  have dn : some D ∉ ι.at_ := (k.mr.hid D k.inh).2
  have mv : Mv ι H ⟨ι.at_ ++ [some D], ι1.hid⟩ (upd H D u) := by
    refine ⟨⟨fun a w h nt => ?_⟩, by simp, fun i q e l => ?_⟩
    · have ne : a ≠ D := fun z => h.2.2 (by rw [z]; exact k.inh)
      refine ⟨by rw [upd_ne ne]; exact h.1, fun z => ?_, fun z => h.2.2 (by rw [k.hd]; exact List.mem_cons_of_mem _ z)⟩
      rcases List.mem_append.mp z with z | z
      · exact h.2.1 z
      · exact ne (by simpa using z)
    · have e' : (ι.at_ ++ [some D])[i]? = some q := e
      rw [List.getElem?_append_left l] at e'
      exact .inl e'
  have at1 : ∀ {i : Nat} {q : Option Addr}, (ι.at_ ++ [some D])[i]? = some q → (i < ι.at_.length ∧ ι.at_[i]? = some q) ∨ (i = ι.at_.length ∧ q = some D) := fun {i q} e => by
    by_cases hi : i < ι.at_.length
    · rw [List.getElem?_append_left hi] at e
      exact .inl ⟨hi, e⟩
    · rw [List.getElem?_append_right (by omega)] at e
      cases z : i - ι.at_.length with
      | zero => rw [z] at e; simp at e; exact .inr ⟨by omega, e.symm⟩
      | succ k => rw [z] at e; simp at e
  have hlen := k.mr.len
  refine ⟨⟨by simp [hlen], fun i j a e1 e2 => ?_, fun i a e => ?_, fun i e => ?_, fun a e => ?_⟩, ⟨?_, fun i q e l => ?_, fun b q h n nt => ?_, fun b e n => ?_, fun b ps h => ?_, rfl⟩⟩
  · rcases at1 e1 with ⟨h1, q1⟩ | ⟨h1, q1⟩
    · rcases at1 e2 with ⟨h2, q2⟩ | ⟨h2, q2⟩
      · exact k.mr.inj i j a q1 q2
      · cases q2; exact absurd (List.mem_of_getElem? q1) dn
    · rcases at1 e2 with ⟨h2, q2⟩ | ⟨h2, q2⟩
      · cases q1; exact absurd (List.mem_of_getElem? q2) dn
      · omega
  · rcases at1 e with ⟨h1, q1⟩ | ⟨h1, q1⟩
    · obtain ⟨o', q, ob'⟩ := k.mr.obj i a q1
      exact ⟨o', by rw [List.getElem?_append_left (by omega)]; exact q, ob'.toM mv (upd_ne fun z => dn (by rw [← z]; exact List.mem_of_getElem? q1))⟩
    · cases q1
      exact ⟨o, by rw [List.getElem?_append_right (by omega), h1, hlen]; simp, ob⟩
  · rcases at1 e with ⟨h1, q1⟩ | ⟨h1, q1⟩
    · rw [List.getElem?_append_left (by omega)]; exact k.mr.gon i q1
    · cases q1
  · obtain ⟨⟨w, hw⟩, n⟩ := k.mr.hid a (by rw [k.hd]; exact List.mem_cons_of_mem _ e)
    have ne : a ≠ D := fun z => hn (by rw [← z]; exact e)
    refine ⟨⟨w, by rw [upd_ne ne]; exact hw⟩, fun z => ?_⟩
    rcases List.mem_append.mp z with z | z
    · exact n z
    · exact ne (by simpa using z)
  · have h1 : ι1.at_.length ≤ ι.at_.length := k.st.len
    show ι1.at_.length ≤ (ι.at_ ++ [some D]).length
    rw [List.length_append]
    omega
  · rcases at1 e with ⟨h1, q1⟩ | ⟨h1, q1⟩
    · exact k.st.pre i q q1 l
    · have h2 : ι1.at_.length ≤ ι.at_.length := k.st.len
      omega
  · rw [upd_ne (ne_of_none h hD)]; exact k.st.keep b q h n nt
  · rcases List.mem_append.mp e with e | e
    · exact k.st.new b e n
    · have z : b = D := by simpa using e
      rw [z]; exact hD
  · rw [upd_ne (ne_of_none h hD)]; exact k.st.tbl b ps h
theorem KH.rep_mv {u : HO} {x : List P} {vs : List V} (k : KH G D ι1 H1 ι H m) (r : RepL G H ι x vs) : RepL G (upd H D u) ⟨ι.at_ ++ [some D], ι1.hid⟩ x vs := by
  have dn : some D ∉ ι.at_ := (k.mr.hid D k.inh).2
  refine RepL.mw (ι := ι) (H := H) ⟨fun a w h nt => ?_⟩ _ _ r
  have ne : a ≠ D := fun z => h.2.2 (by rw [z]; exact k.inh)
  refine ⟨by rw [upd_ne ne]; exact h.1, fun z => ?_, fun z => h.2.2 (by rw [k.hd]; exact List.mem_cons_of_mem _ z)⟩
  rcases List.mem_append.mp z with z | z
  · exact h.2.1 z
  · exact ne (by simpa using z)
end

/-! ### displays of dicts -/
/-- keys and values, in turn -/
def dPairs : List (FE × FE) → DS → Mem → ER (List (P × P))
  | [], _, m => .ok [] m
  | q :: l, δ, m => (q.1 δ m).bindN fun d m => (q.2 δ m).bindN fun e m => match d, e with
    | .p x, .p y => (dPairs l δ m).bindN fun ps m => .ok ((x, y) :: ps) m
    | _, _ => .bad
def keysOf : List (P × P) → Option (List Key)
  | [] => some []
  | q :: l => q.1.ky.bind fun k => (keysOf l).map (k :: ·)
def mkD (ps : List (P × P)) (m : Mem) : ER D := match keysOf ps with
  | some ks => if ks.Nodup ∧ ps.length ≤ 15 then .ok (.ref m.length) (m ++ [some (.dK ks (ps.map (·.2)))]) else .bad
  | none => .bad
def sDisp (l : List (FE × FE)) : FE := fun δ m => (dPairs l δ m).bindN mkD
def PRel (G : Gx) (H : Hp) (ι : Io) : List (P × P) → List (V × V) → Prop
  | [], vs => vs = []
  | q :: l, vs => ∃ v u r, vs = (v, u) :: r ∧ Rep G H ι q.1 v ∧ Rep G H ι q.2 u ∧ PRel G H ι l r
section
variable {X : Cx} {W : WX} {pos : Pos}
abbrev DPs (X : Cx) (W : WX) (pos : Pos) (ks : List (Option Expr)) (vs : List Expr) (l : List (FE × FE)) : Prop := PPs X pos ks vs (l.map fun q => (tD X W q.1, tD X W q.2))
theorem dps_nil : DPs X W pos [] [] [] := pps_nil
theorem dps_cons {k v : Expr} {ks : List (Option Expr)} {vs : List Expr} {fk fv : FE} {l : List (FE × FE)} (hk : DE X W k fk) (hv : DE X W v fv) (hr : DPs X W pos ks vs l) : DPs X W pos (some k :: ks) (v :: vs) ((fk, fv) :: l) := pps_cons hk hv hr
theorem prel_mv {G : Gx} {ι ι' : Io} {H H' : Hp} (s : Mv ι H ι' H') : ∀ {ps : List (P × P)} {vs : List (V × V)}, PRel G H ι ps vs → PRel G H' ι' ps vs
  | [], _, h => h
  | _ :: _, _, ⟨v, u, r, e, h1, h2, h3⟩ => ⟨v, u, r, e, Rep.mv s _ _ h1, Rep.mv s _ _ h2, prel_mv s h3⟩
theorem tPairs_of : ∀ {l : List (FE × FE)} {δ : DS} {σ : L2.St} {H : Hp} {ι : Io} {m m' : Mem} {ps : List (P × P)} {Q : List (V × V) → Hp → Prop}, SRel (gx X) H ι σ δ → MRel (gx X) H ι m → dPairs l δ m = .ok ps m' →
    (∀ vs H' ι', Step ι H ι' H' → MRel (gx X) H' ι' m' → PRel (gx X) H' ι' ps vs → Q vs H') → tPairs (l.map fun q => (tD X W q.1, tD X W q.2)) σ H Q
  | [], δ, σ, H, ι, m, m', ps, Q, S, M, h, k => by
    cases h
    exact k [] H ι (.refl _ _) M rfl
  | q :: l, δ, σ, H, ι, m, m', ps, Q, S, M, h, k => by
    obtain ⟨d, m1, e1, h⟩ := bindN_ok h
    obtain ⟨e, m2, e2, h⟩ := bindN_ok h
    split at h
    · rename_i x y
      obtain ⟨qs, m3, e3, h⟩ := bindN_ok h
      cases h
      refine ⟨δ, m, ι, S, M, ?_⟩
      rw [e1]
      intro v H1 ι1 s1 M1 r1
      refine ⟨δ, m1, ι1, S.step s1, M1, ?_⟩
      rw [e2]
      intro u H2 ι2 s2 M2 r2
      refine tPairs_of (S.step (s1.trans s2)) M2 e3 fun vs H3 ι3 s3 M3 r3 => k _ H3 ι3 (s1.trans (s2.trans s3)) M3 ⟨v, u, vs, rfl, Rep.step (s2.trans s3) _ _ r1, Rep.step s3 _ _ r2, r3⟩
    · cases h
theorem keys_rep {G : Gx} {H : Hp} {ι : Io} : ∀ {ps : List (P × P)} {ks : List Key} {vs : List (V × V)}, keysOf ps = some ks → PRel G H ι ps vs → ks.length = ps.length ∧ vs = (ks.zip (vs.map (·.2))).map (fun kv => (kV kv.1, kv.2)) ∧ RepL G H ι (ps.map (·.2)) (vs.map (·.2))
  | [], ks, vs, h, r => by cases h; rw [show vs = [] from r]; exact ⟨rfl, rfl, .nil⟩
  | q :: l, ks, vs, h, r => by
    obtain ⟨k, hk, h⟩ := Option.bind_eq_some_iff.mp h
    obtain ⟨ks', h1, h2⟩ := Option.map_eq_some_iff.mp h
    subst h2
    obtain ⟨v, u, r', e, r1, r2, r3⟩ := r
    subst e
    obtain ⟨e1, e2, e3⟩ := keys_rep h1 r3
    refine ⟨by simp [e1], ?_, .cons r2 e3⟩
    rw [List.map_cons, List.zip_cons_cons, List.map_cons, ← e2, ky_rep hk (Rep.rn r1)]
theorem merge_new : ∀ {ks : List Key} {vs : List V} {acc : List (Key × V)}, ks.Nodup → (∀ k ∈ ks, valV acc k = none) → mergeK acc (ks.zip vs) = acc ++ ks.zip vs
  | [], vs, acc, _, _ => by simp [mergeK]
  | k :: ks, [], acc, _, _ => by simp [mergeK]
  | k :: ks, v :: vs, acc, nd, h => by
    have nd' := List.nodup_cons.mp nd
    rw [List.zip_cons_cons]
    show mergeK (putK acc k v) (ks.zip vs) = _
    rw [putK_new v (h k List.mem_cons_self), merge_new nd'.2 fun j hj => ?_]
    · simp
    · have := h j (List.mem_cons_of_mem _ hj)
      unfold valV at this ⊢
      rw [List.find?_append]
      cases q : acc.find? fun kv => decide (kv.1 = j) with
      | some w => rw [q] at this; cases this
      | none =>
        have ne : ¬ k = j := fun z => nd'.1 (by rw [z]; exact hj)
        simp [ne]
theorem de_disp {keys : List (Option Expr)} {values : List Expr} {l : List (FE × FE)} (h : DPs X W pos keys values l) (hall : keys.all (·.isSome) = true := by rfl) (hl : keys.length = values.length := by rfl) (h0 : keys ≠ [] := by simp) (h15 : keys.length ≤ 15 := by decide) :
    DE X W (.Dict keys values pos) (sDisp l) := (pe_disp h hall hl h0 h15).conv fun σ H Q ⟨δ, m, ι, S, M, h⟩ => by
  obtain ⟨ps, m1, e1, h⟩ := ERP.okOf h
  intro p hp
  unfold mkD at h
  split at h
  case h_2 => exact h.elim
  rename_i ks hk
  split at h
  case isFalse => exact h.elim
  rename_i hc
  have k0 : KH (gx X) p ι H (ι.hide p) (upd H p (.dK [])) m := .start M hp
  have mv0 : Mv ι H (ι.hide p) (upd H p (.dK [])) := .hide hp
  refine tPairs_of (S.mv mv0) k0.mr e1 fun vs H' ι' s' M' r' => ?_
  have k1 := k0.step s' M'
  have hH : H' p = some (.dK []) := s'.keep p _ upd_same (k0.mr.hid p k0.inh).2 (fun ps z => by cases z)
  obtain ⟨e2, e3, e4⟩ := keys_rep hk r'
  refine ⟨hH, ks.zip (vs.map (·.2)), e3, ?_, ?_⟩
  · rw [List.length_zip, e2]
    exact Nat.le_trans (Nat.min_le_left _ _) hc.2
  · rw [merge_new hc.1 fun k _ => rfl, List.nil_append]
    have hn : p ∉ ι.hid := fun z => by
      obtain ⟨⟨u, hu⟩, _⟩ := M.hid p z
      rw [hp] at hu; cases hu
    obtain ⟨MA, SA⟩ := k1.adopt (u := .dK (ks.zip (vs.map (·.2)))) (o := .dK ks (ps.map (·.2))) hp ⟨vs.map (·.2), upd_same, by simpa using e2, k1.rep_mv e4⟩ hn
    exact h _ _ _ SA MA ⟨p, rfl, .inl (by show (ι'.at_ ++ [some p])[m1.length]? = _; rw [← M'.len]; simp)⟩
end

/-! ### list(range(..)) -/
section
variable {X : Cx} {W : WX} {e e2 : Expr} {fa fb : FE} {p p2 pos pos2 : Pos}
/-- the ends -/
def sR1 (fa : FE) : DS → Mem → ER (Int × Int) := fun δ m => (fa δ m).bind fun d m => match d with
  | .p (.int j) => .ok (0, j) m
  | _ => .bad
def rgOk (ab : Int × Int) : Bool := decide (-(2 ^ 62) ≤ ab.1 ∧ ab.1 < 2 ^ 62 ∧ -(2 ^ 62) ≤ ab.2 ∧ ab.2 < 2 ^ 62 ∧ (ab.2 - ab.1).toNat ≤ 16777216)
def sListR (fr : DS → Mem → ER (Int × Int)) : FE := fun δ m => (fr δ m).bind fun ab m => if rgOk ab = true then .ok (.p (.lst (upFrom ab.1 (ab.2 - ab.1).toNat))) m else .bad
def sListRM (fr : DS → Mem → ER (Int × Int)) : FE := fun δ m => (fr δ m).bind fun ab m => if rgOk ab = true then .ok (.ref m.length) (m ++ [some (.lst (upFrom ab.1 (ab.2 - ab.1).toNat))]) else .bad
theorem rep_rgV {G : Gx} {H : Hp} {ι : Io} (a b : Int) : RepL G H ι (upFrom a (b - a).toNat) (rgV a b) := by
  unfold upFrom rgV
  generalize List.range (b - a).toNat = l
  induction l with
  | nil => exact .nil
  | cons i l ih => exact .cons rep_int ih
theorem rgOk_ok {ab : Int × Int} (h : rgOk ab = true) : RgOk ab.1 ab.2 := by
  have := of_decide_eq_true h
  exact ⟨this.1, this.2.1, this.2.2.1, this.2.2.2.1, this.2.2.2.2⟩
theorem de_listR1 (hc : X.calm = true) (hm : X.mg "list" = none) (hm2 : X.mg "range" = none) (ha : DE X W e fa) (hg : Gl X "list" := by rfl) (hg2 : Gl X "range" := by rfl) (na : starEach [.Call (.Name "range" p2) [e] [] pos2] X.env = (false, eval (.Call (.Name "range" p2) [e] [] pos2) X.env) :: starEach [] X.env := by rfl) (na2 : starEach [e] X.env = (false, eval e X.env) :: starEach [] X.env := by rfl) :
    DE X W (.Call (.Name "list" p) [.Call (.Name "range" p2) [e] [] pos2] [] pos) (sListR (sR1 fa)) := (pe_listRg hc hg hm (prg_1 hg2 hm2 ha na2) na).conv fun σ H Q ⟨δ, m, ι, S, M, h⟩ => by
  unfold sListR sR1 at h
  refine ⟨δ, m, ι, S, M, ?_⟩
  cases q : fa δ m with
  | bad => rw [q] at h; exact h
  | ex x m1 => rw [q] at h; exact h
  | ok d m1 =>
    rw [q] at h
    intro v H1 ι1 s1 M1 r1
    have h1 := h.step s1
    simp only [ER.bind_ok] at h1
    cases d with
    | p x =>
      cases x with
      | int j =>
        simp only [RepD, Rep] at r1
        simp only [ER.bind_ok] at h1
        split at h1
        · rename_i ok
          exact ⟨j, r1, rgOk_ok ok, fun q hq => ERP.fin M1 h1 _ _ (Same.upd hq) (rep_lst hq (M1.fresh hq) (rep_rgV 0 j))⟩
        · exact h1.elim
      | _ => exact h1.elim
    | _ => exact h1.elim
theorem de_listR1M (hc : X.calm = true) (hm : X.mg "list" = none) (hm2 : X.mg "range" = none) (ha : DE X W e fa) (hg : Gl X "list" := by rfl) (hg2 : Gl X "range" := by rfl) (na : starEach [.Call (.Name "range" p2) [e] [] pos2] X.env = (false, eval (.Call (.Name "range" p2) [e] [] pos2) X.env) :: starEach [] X.env := by rfl) (na2 : starEach [e] X.env = (false, eval e X.env) :: starEach [] X.env := by rfl) :
    DE X W (.Call (.Name "list" p) [.Call (.Name "range" p2) [e] [] pos2] [] pos) (sListRM (sR1 fa)) := (pe_listRg hc hg hm (prg_1 hg2 hm2 ha na2) na).conv fun σ H Q ⟨δ, m, ι, S, M, h⟩ => by
  unfold sListRM sR1 at h
  refine ⟨δ, m, ι, S, M, ?_⟩
  cases q : fa δ m with
  | bad => rw [q] at h; exact h
  | ex x m1 => rw [q] at h; exact h
  | ok d m1 =>
    rw [q] at h
    intro v H1 ι1 s1 M1 r1
    have h1 := h.step s1
    simp only [ER.bind_ok] at h1
    cases d with
    | p x =>
      cases x with
      | int j =>
        simp only [RepD, Rep] at r1
        simp only [ER.bind_ok] at h1
        split at h1
        · rename_i ok
          exact ⟨j, r1, rgOk_ok ok, fun q hq => ERP.alloc (o := .lst _) M1 hq ⟨_, upd_same, rep_rgV 0 j⟩ h1⟩
        · exact h1.elim
      | _ => exact h1.elim
    | _ => exact h1.elim
end

/-! ### a < b < c as a test -/
section
variable {X : Cx} {W : WX} {a b c : Expr} {fa fb fc : FE} {pos : Pos}
theorem db_chain {op op' : CmpOp} {g g' : P → P → Option P} (ho : OpR X (compareOp op) (rP2 X g)) (ho' : OpR X (compareOp op') (rP2 X g')) (ha : DE X W a fa) (hb : DE X W b fb) (hc : DE X W c fc)
    (hm : lastMarks [op, op'] [b, c] = false := by with_unfolding_all rfl) : DB X W (.Compare a [op, op'] [b, c] pos) (sB (sChain g g' fa fb fc)) :=
  (pt_chain ho ho' ha hb hc hm).conv fun σ H Q ⟨δ, m, ι, S, M, h⟩ => chain_conv (W := W) σ H (fun x H1 => ∃ k, x = .bl k ∧ Q k H1)
    ⟨δ, m, ι, S, M, ERP.seq (rel := fun H ι => RepD (gx X) H ι) h fun z m3 w H3 ι3 _ s3 M3 r3 h3 => asB_rep M3 r3 h3⟩
end
end DL

set_option Elab.async false
set_option linter.all false
set_option maxRecDepth 100000
/-! The data layer, part q: the head's Hook. -/
namespace DL
open PySem PySem.Spec PyProof.Rows L2
abbrev AlZ : Type := He.AlD × Bool
def obsZ (n : Nat) (fa : List He.Fa) (fn : List He.DefD) (ex : PySem.W.Frag → Bool) (g : Addr → Option Obj) : AlZ := (He.obsD fa fn (He.frG g (He.asD g n)), ex (He.frG g (He.asD g n)))
def hookZ (n : Nat) (fa : List He.Fa) (fn : List He.DefD) (ex : PySem.W.Frag → Bool) : PySem.W.Hook where
  α := AlZ
  obs := fun s => obsZ n fa fn ex s.heap.get?
  val := fun _ => (He.valD fn, true)
  says := fun _ h => ∃ K : PySem.W.Frag, K.In h ∧ He.SaysD fa fn K ∧ ex K = true
  of := fun _ _ e => ⟨_, He.frG_in, congrArg (fun z : AlZ => z.1) e, congrArg (fun z : AlZ => z.2) e⟩
  keeps := fun _ _ _ ⟨K, hK, c⟩ k => ⟨K, PySem.W.Frag.In.keeps hK k, c⟩
theorem obsZ_eq {n : Nat} {fa : List He.Fa} {fn : List He.DefD} {ex : PySem.W.Frag → Bool} {g : Addr → Option Obj} {s : Shared} (h : ∀ a, g a = s.heap.get? a) : obsZ n fa fn ex g = (hookZ n fa fn ex).obs s := by
  have e : g = s.heap.get? := funext h
  rw [e] <;> rfl
theorem zf_of {fa : List He.Fa} {fn : List He.DefD} {ex : PySem.W.Frag → Bool} {K : PySem.W.Frag} {mg : Str → Option Value} {h : Heap} (X : K.In h) (G : h.Ns mainGlobals mg) (c : He.SaysD fa fn K) (e : ex K = true) : Zf fa fn ex K mg :=
  ⟨fun _ m => c.facts m, fun _ m => c.defs m, e, h, X, G⟩
end DL

set_option Elab.async false
set_option linter.all false
set_option maxRecDepth 100000
/-! The data layer, part r: dict comprehensions, dict(pairs), walks of items and values, get. -/
namespace DL
open PySem PySem.Spec PyProof.Rows L2

/-! ### a hidden object is written to -/
section
variable {G : Gx} {D : Addr} {ι1 ι ι' : Io} {H1 H H' : Hp} {m m' : Mem}
theorem KH.put {u : HO} (k : KH G D ι1 H1 ι H m) (hD : H1 D = none) : KH G D ι1 H1 ι (upd H D u) m := by
  have mv : Mv ι H ι (upd H D u) := .hidden k.inh
  have dn : some D ∉ ι.at_ := (k.mr.hid D k.inh).2
  refine ⟨k.hd, ⟨k.st.len, k.st.pre, fun b o h n nt => ?_, k.st.new, fun b ps h => ?_, k.st.hid⟩, ⟨k.mr.len, k.mr.inj, fun i a h => ?_, k.mr.gon, fun a h => ?_⟩⟩
  · rw [upd_ne (ne_of_none h hD)]; exact k.st.keep b o h n nt
  · rw [upd_ne (ne_of_none h hD)]; exact k.st.tbl b ps h
  · obtain ⟨o, q, ob⟩ := k.mr.obj i a h
    exact ⟨o, q, ob.toM mv (upd_ne fun z => dn (by rw [← z]; exact List.mem_of_getElem? h))⟩
  · obtain ⟨⟨w, hw⟩, n⟩ := k.mr.hid a h
    by_cases z : a = D
    · subst z; exact ⟨⟨_, upd_same⟩, n⟩
    · exact ⟨⟨w, by rw [upd_ne z]; exact hw⟩, n⟩
theorem KH.mv (k : KH G D ι1 H1 ι H m) (hD : H1 D = none) : Mv ι1 H1 ι H := by
  refine ⟨⟨fun a u h nt => ?_⟩, k.st.len, k.st.pre⟩
  obtain ⟨h1, h2⟩ := k.st.keepN h.1 h.2 nt
  refine ⟨h1, h2.1, fun z => ?_⟩
  rw [k.hd] at z
  rcases List.mem_cons.mp z with z | z
  · exact ne_of_none h.1 hD z
  · exact h2.2 z
theorem KH.hidObj {o : MO} (k : KH G D ι1 H1 ι H m) (ob : MObj G H ι D o) (s : Step ι H ι' H') : MObj G H' ι' D o := by
  have dn := (k.mr.hid D k.inh).2
  refine ob.to s ?_
  cases o with
  | lst xs => obtain ⟨_, e, _⟩ := ob; rw [e]; exact s.keep D _ e dn fun ps z => by cases z
  | dK ks xs => obtain ⟨_, e, _⟩ := ob; rw [e]; exact s.keep D _ e dn fun ps z => by cases z
  | dT ks xs => obtain ⟨_, _, _, e, _⟩ := ob; rw [e]; exact s.keep D _ e dn fun ps z => by cases z
  | ins C ns xs => obtain ⟨_, _, e, _⟩ := ob; rw [e]; exact s.keep D _ e dn fun ps z => by cases z
end
theorem upd_id {H : Hp} {D : Addr} {u : HO} (h : H D = some u) : upd H D u = H := by
  funext b
  by_cases z : b = D
  · subst z; rw [upd_same, h]
  · rw [upd_ne z]

/-! ### {k: v for x in xs} -/
/-- behind y: z being put into the object at D -/
def PutsAt (X : Cx) (D : Addr) (y z : V) (B : Hp) (Nx : Hp → Prop) : Prop := ∀ (Y : Cx), Y.prog = X.prog → Y.w = X.w → Y.K = X.K → Y.A = X.A → ∀ (pins : List (Addr × Obj)) (τ : L2.St) (s : Shared) (u r : Value) (E : Value → Shared → Prop) (R : Unit → Shared → Prop),
  Inv Y pins τ B s → RelV y u → RelV z r → (∀ s' B', Inv Y pins τ B' s' → Nx B' → R () s') → wpAny (model Y.prog Y.w) Y.A (dictSet D u r) R E s
/-- u0: the new object -/
def tDz (X : Cx) (u0 : Addr → HO) (wi : TI) (g : TG) (tk tv : TE) (vs : List Nat) : TE := fun τ B Q => wi τ B fun J B1 => ∀ D, B1 D = none → (D == sysModules) = false → ∃ W : Nat → Nat → Hp → Prop, (∃ n, W 0 n (upd B1 D (u0 D))) ∧ ∀ i n B, W i n B →
  (J.stop i B ∧ Q (.ref D) B) ∨ (J.go i B ∧ ∃ Nx : Hp → Prop, (∀ B', Nx B' → ∃ n', n' < n ∧ W (i + 1) n' B') ∧ ∀ x B', J.yld i B x B' → g x (wipe τ vs) B' fun τ2 B2 => wipe τ2 vs = wipe τ vs ∧ tk τ2 B2 fun y B4 => tv τ2 B4 fun z B5 => PutsAt X D y z B5 Nx)
section
variable {X : Cx}
theorem dz_core {pins : List (Addr × Obj)} {s : Shared} {τ : L2.St} {B : Hp} {Q : VK} {kx vx tg iter : Expr} {scope : Scope} {own : List (Str × Nat)} {pos pos' : Pos} {u0 : Addr → HO} {wi : TI} {g : TG} {tk tv : TE} {Qf : Value → Shared → Prop}
    (new : ∀ (H : Hp) (h : Heap), sysModules < h.objs.size → ObjOk X.prog X.w H (h.push { cls := .type "dict", data := .dict #[] }) h.objs.size (u0 h.objs.size))
    (hc : X.calm = true) (hN : X.N.Nodup) (I : Inv X pins τ B s) (hi : PI X tg iter wi) (ok : BlkOk X.N X.env.scope scope own)
    (hg : ∀ (s : Shared) (H : Hp) (C : Addr) (cl : List (Str × Addr)) (fp : List Addr), PG (X.blk s H scope (compEnvC scope cl C X.env) fp) tg g)
    (hk : ∀ (s : Shared) (H : Hp) (C : Addr) (cl : List (Str × Addr)) (fp : List Addr), PE (X.blk s H scope (compEnvC scope cl C X.env) fp) kx tk)
    (hv : ∀ (s : Shared) (H : Hp) (C : Addr) (cl : List (Str × Addr)) (fp : List Addr), PE (X.blk s H scope (compEnvC scope cl C X.env) fp) vx tv) (hs : ∀ x, foldedSetIterable iter X.env x = pure x)
    (h : tDz X u0 wi g tk tv (own.map (·.2)) τ B Q)
    (hRR : ∀ D C s' m B', Inv X pins τ B' s' → Q (.ref D) B' → s'.heap.Ns C m → FpOk X pins B' C → compPost (model X.prog X.w) X.A X.xe none Qf (.ref D) C (.ok .next) s') :
    wpAny (model X.prog X.w) X.A (comprehension (.DictComp kx vx [⟨tg, iter, [], 0⟩] scope pos) scope X.env pos' newDict false (eval iter X.env) none) Qf X.xe s := by
  have cell : ∀ y ∈ scope.names, y.2 = .free → ∃ c, X.env.cells.lookup y.1 = some c := fun y hy e => (ok.free y hy e).elim (fun k => I.ok.has _ (.inl k)) fun k => I.ok.has _ (.inr k)
  refine wpAny_comprehension_free (use := none) rfl hs (closure_ok cell) ok.kind (fun y hy e => by rw [ok.uniq y hy, e]) (thn (hi.run pins s τ B _ I h) fun xv s1 hx => thn hx fun itv s2 h2 => ?_)
  obtain ⟨it, fp, tn, J, B2, rfl, I2, T, st2, f2, q⟩ := h2
  refine wpAny_newObj_type (newEnv_comp ?_)
  obtain ⟨D, hD⟩ : ∃ D, s2.heap.objs.size = D := ⟨_, rfl⟩
  have free : B2 D = none := I2.hok.fresh (Nat.le_of_eq hD)
  obtain ⟨W, ⟨n0, w0⟩, turn⟩ := q D free (beq_eq_false_iff_ne.mpr (Ne.symm (Nat.ne_of_lt (by rw [← hD]; exact I2.big))))
  -- the new dict
  obtain ⟨s3, hs3⟩ : ∃ s3 : Shared, { s2 with heap := s2.heap.push { cls := .type "dict", data := .dict #[] } } = s3 := ⟨_, rfl⟩
  have I3 : Inv X pins τ (upd B2 D (u0 D)) s3 := by
    subst hs3 hD
    exact I2.laid (t' := s2.toks) (fun b o e => Heap.get?_push_of_some _ e) (Nat.le_refl _) (new _ _ I2.big)
  have heap3 : s3.heap = s2.heap.push { cls := .type "dict", data := .dict #[] } := by rw [← hs3]
  have low : ∀ b ∈ fp, b < s2.heap.objs.size := fun b hb => let ⟨o, e, _⟩ := T.obj _ _ st2 b hb; Heap.lt_size e
  have f3 : ∀ b ∈ fp, FpOk X pins (upd B2 D (u0 D)) b ∧ b < s3.heap.objs.size := fun b hb => by
    refine ⟨⟨?_, (f2 b hb).2⟩, by rw [heap3, Heap.size_push]; exact Nat.lt_succ_of_lt (low b hb)⟩
    rw [upd_ne (by rw [← hD]; exact Nat.ne_of_lt (low b hb))]
    exact (f2 b hb).1
  have st3 : tn 0 s3.heap := T.keep _ _ _ st2 fun b _ o e => by rw [heap3]; exact Heap.get?_push_of_some _ e
  have I4 := block_start I3 ok hN f3
  obtain ⟨cls, hcls⟩ : ∃ cls, cellsFrom (s3.heap.objs.size + 1) scope.names (cloFrom X.env.cells scope.names []) = cls := ⟨_, rfl⟩
  have pg := hg s3 (upd B2 D (u0 D)) s3.heap.objs.size cls fp
  have pk := hk s3 (upd B2 D (u0 D)) s3.heap.objs.size cls fp
  have pv := hv s3 (upd B2 D (u0 D)) s3.heap.objs.size cls fp
  rw [hcls] at I4
  rw [hs3, hcls]
  show codeAny _ _ (.compStart (.DictComp kx vx [⟨tg, iter, [], 0⟩] scope pos) 0 (.ref it) (.ref s2.heap.objs.size) (compEnvC scope cls s3.heap.objs.size X.env)) (compPost (model X.prog X.w) X.A X.xe none Qf (.ref s2.heap.objs.size) s3.heap.objs.size) { s3 with heap := pushCells (s3.heap.push { cls := .type "dict", data := .dict #[] }) scope.names }
  rw [hD]
  have none3 : ∀ b ∈ fp, (upd B2 D (u0 D)) b = none := fun b hb => (f3 b hb).1.1
  obtain ⟨ce, hce⟩ : ∃ ce, compEnvC scope cls s3.heap.objs.size X.env = ce := ⟨_, rfl⟩
  rw [hce] at I4 pg pk pv ⊢
  have cL : ce.locals = s3.heap.objs.size := by rw [← hce]; rfl
  obtain ⟨B3, hB3⟩ : ∃ B3, upd B2 D (u0 D) = B3 := ⟨_, rfl⟩
  rw [hB3] at I3 I4 pg pk pv w0 none3 f3
  obtain ⟨s4, hs4⟩ : ∃ s4 : Shared, { s3 with heap := pushCells (s3.heap.push { cls := .type "dict", data := .dict #[] }) scope.names } = s4 := ⟨_, rfl⟩
  rw [hs4] at I4 ⊢
  have st4 : tn 0 s4.heap := T.keep _ _ _ st3 fun b _ o e => by rw [← hs4]; exact pushCells_keeps _ _ _ _ (Heap.get?_push_of_some _ e)
  have stat : ∀ {τ' : L2.St} {B' : Hp} {s' : Shared}, Inv (X.blk s3 B3 scope ce fp) [] τ' B' s' → (∀ b ∈ fp, B' b = none) → ∀ b ∈ fp, FpOk (X.blk s3 B3 scope ce fp) [] B' b := fun {τ' B' s'} K n b hb =>
    ⟨n b hb, (K.ok.exf b hb).1, K.ok.exfs b hb, .inl hb, fun x c e => (K.ok.exf b hb).2 x c e, fun p hp => absurd (show p ∈ ([] : List (Addr × Obj)) ++ [] from hp) (by simp)⟩
  have loop : codeAny (model X.prog X.w) X.A (.compLoop (.DictComp kx vx [⟨tg, iter, [], 0⟩] scope pos) 0 (.ref it) (.ref D) ce) (compPost (model X.prog X.w) X.A X.xe none Qf (.ref D) s3.heap.objs.size) s4 := by
    refine compLoop_anyD (fun n s' => ∃ i B', Inv (X.blk s3 B3 scope ce fp) [] (wipe τ (own.map (·.2))) B' s' ∧ tn i s'.heap ∧ (∀ b ∈ fp, B' b = none) ∧ W i n B') ?_ n0 ⟨0, B3, I4, st4, none3, w0⟩
    rintro n s5 ⟨i, B5, I5, st5, n5, w5⟩
    rcases turn i n B5 w5 with ⟨stop, qq⟩ | ⟨go, Nx, hNx, step⟩
    · have td := T.done (X.blk s3 B3 scope ce fp) rfl rfl rfl hc i [] s5 _ B5 (fun _ _ => False) I5 (stat I5 n5) st5 stop
      refine thnF td fun r s6 ⟨hr, I6⟩ => ?_
      subst hr
      have I7 : Inv X pins τ B5 s6 := I3.call' (ch := fp) I6.os I6.base I6.hok I6.bare fun b hb => ⟨(f3 b hb).1.2.2.2.1, (f3 b hb).1.2.1, (f3 b hb).1.2.2.2.2.1, (f3 b hb).1.2.2.2.2.2⟩
      have nC : B5 s3.heap.objs.size = none := by rw [← cL]; exact I6.free
      obtain ⟨m, hn, _⟩ := I6.loc
      have hn' : s6.heap.Ns s3.heap.objs.size m := by rw [← cL]; exact hn
      exact hRR D s3.heap.objs.size s6 m B5 I7 qq hn' (I3.fpOk (Nat.le_refl _) nC)
    · have ti := T.item (X.blk s3 B3 scope ce fp) rfl rfl rfl hc i [] s5 _ B5 (fun _ _ => False) I5 (stat I5 n5) st5 go
      refine thnF ti fun r s6 ⟨u, hr, h6⟩ => ?_
      subst hr
      refine thnF h6 fun _ s7 ⟨x, B7, I7, r7, y7, st7, n7⟩ => ?_
      have I7p := I7.pinned (stat I7 n7) (T.obj _ _ st7)
      refine thnF (pg.run _ s7 _ B7 x u _ I7p r7 (step x B7 y7)) fun _ s8 ⟨τ8, B8, I8, hw8, q8⟩ => ?_
      refine wpAny_pure ?_
      show (if true = true then _ else _)
      rw [if_pos rfl]
      refine thnF (pk.run _ s8 τ8 B8 _ I8 q8) fun z s10 ⟨yk, B10, I10, r10, q10⟩ => ?_
      refine thnF (pv.run _ s10 τ8 B10 _ I10 q10) fun z2 s11 ⟨yv, B11, I11, r11, puts⟩ => ?_
      refine puts (X.blk s3 B3 scope ce fp) rfl rfl rfl rfl _ _ _ _ _ _ _ I11 r10 r11 fun s12 B12 I12 nx => ?_
      obtain ⟨m', hm, w'⟩ := hNx B12 nx
      have pin' : ∀ b ∈ fp, ∀ o, s7.heap.get? b = some o → s12.heap.get? b = some o ∧ B12 b = none := fun b hb o e =>
        let z := I12.pin (b, o) (List.mem_append_right _ (List.mem_append_right _ (mem_pinsAt hb e)))
        ⟨z.1, z.2.1⟩
      have hl : (wipe τ (own.map (·.2))).length = τ8.length := by rw [← hw8, wipe_length]
      refine ⟨m', hm, i + 1, B12, (I12.unpinned (pins := [])).weak hl (fun j v e => ?_), T.keep _ _ _ st7 fun b hb o e => (pin' b hb o e).1, fun b hb => ?_, w'⟩
      · rw [← hw8] at e
        exact (wipe_some e).1
      · obtain ⟨o, e, _⟩ := T.obj _ _ st7 b hb
        exact (pin' b hb o e).2
  exact codeAny_compStart_dict loop (T.self X.A 0 _ _ _ st4 loop)
theorem pe_dz {kx vx tg iter : Expr} {scope : Scope} {own : List (Str × Nat)} {pos : Pos} {u0 : Addr → HO} {wi : TI} {g : TG} {tk tv : TE}
    (new : ∀ (H : Hp) (h : Heap), sysModules < h.objs.size → ObjOk X.prog X.w H (h.push { cls := .type "dict", data := .dict #[] }) h.objs.size (u0 h.objs.size)) (hc : X.calm = true) (hN : X.N.Nodup) (hi : PI X tg iter wi) (ok : BlkOk X.N X.env.scope scope own)
    (hg : ∀ (s : Shared) (H : Hp) (C : Addr) (cl : List (Str × Addr)) (fp : List Addr), PG (X.blk s H scope (compEnvC scope cl C X.env) fp) tg g)
    (hk : ∀ (s : Shared) (H : Hp) (C : Addr) (cl : List (Str × Addr)) (fp : List Addr), PE (X.blk s H scope (compEnvC scope cl C X.env) fp) kx tk)
    (hv : ∀ (s : Shared) (H : Hp) (C : Addr) (cl : List (Str × Addr)) (fp : List Addr), PE (X.blk s H scope (compEnvC scope cl C X.env) fp) vx tv) (hs : ∀ x, foldedSetIterable iter X.env x = pure x := by intro _; rfl) :
    PE X (.DictComp kx vx [⟨tg, iter, [], 0⟩] scope pos) (tDz X u0 wi g tk tv (own.map (·.2))) := by
  refine ⟨fun pins s τ B Q I h => ?_⟩
  rw [arm_eval_DictComp]
  refine dz_core new hc hN I hi ok hg hk hv hs h fun D C s' m B' I' q hn f => ⟨m, hn, fun h2 sb => ?_⟩
  obtain ⟨g0, g1, _, g3, g4, g5⟩ := f
  exact ⟨.ref D, B', I'.turned (t' := s'.toks) (fun b o hb e => (sb.2 b hb).trans e) g0 g1 g3 g4 g5, rfl, q⟩
end

/-- the pairs told by the turns -/
def dcL (g : FG) (fk fv : FE) (ok : Mem → Bool) (δ : DS) : List P → Mem → ER (List (P × P))
  | [], m => if ok m = true then .ok [] m else .bad
  | x :: xs, m => if ok m = true then (match g (.p x) δ with
    | some δ1 => (fk δ1 m).bindN fun d m => (fv δ1 m).bindN fun e m => match d, e with
      | .p k, .p v => (dcL g fk fv ok δ xs m).bindN fun ps m => .ok ((k, v) :: ps) m
      | _, _ => .bad
    | none => .bad) else .bad
def keyT : P → Bool
  | .tup as => (P.tup as).keyD
  | _ => false
/-- the dict of pairs whose keys all differ; T: the keys are tuples -/
def dOf (T : Bool) (ps : List (P × P)) : Option MO := if T = true then (if (ps.all fun q => keyT q.1) = true ∧ (P.nkL (ps.map (·.1))).Nodup ∧ ps.length < 16777216 then some (.dT (ps.map (·.1)) (ps.map (·.2))) else none)
  else match keysOf ps with
    | some ks => if ks.Nodup ∧ ps.length < 16777216 then some (.dK ks (ps.map (·.2))) else none
    | none => none
def newD (o : Option MO) (m : Mem) : ER D := match o with
  | some o => .ok (.ref m.length) (m ++ [some o])
  | none => .bad
def sDc (T : Bool) (fi : FI) (g : FG) (fk fv : FE) (vs : List Nat) : FE := fun δ m => (fi δ m).bind fun it m => (dcL g fk fv it.ok (wipeD δ vs) it.items m).bindN fun ps m => newD (dOf T ps) m
theorem keysOf_append : ∀ {a b : List (P × P)} {ks : List Key}, keysOf (a ++ b) = some ks → ∃ k1 k2, keysOf a = some k1 ∧ keysOf b = some k2 ∧ ks = k1 ++ k2
  | [], b, ks, h => ⟨[], ks, rfl, h, rfl⟩
  | q :: a, b, ks, h => by
    rw [List.cons_append, keysOf] at h
    obtain ⟨k, h1, h2⟩ := Option.bind_eq_some_iff.mp h
    obtain ⟨r, h3, h4⟩ := Option.map_eq_some_iff.mp h2
    obtain ⟨k1, k2, h5, h6, h7⟩ := keysOf_append h3
    exact ⟨k :: k1, k2, by rw [keysOf, h1, h5]; rfl, h6, by rw [← h4, h7]; rfl⟩
theorem keysOf_len : ∀ {a : List (P × P)} {ks : List Key}, keysOf a = some ks → ks.length = a.length
  | [], ks, h => by cases h; rfl
  | q :: a, ks, h => by
    rw [keysOf] at h
    obtain ⟨k, h1, h2⟩ := Option.bind_eq_some_iff.mp h
    obtain ⟨r, h3, h4⟩ := Option.map_eq_some_iff.mp h2
    rw [← h4, List.length_cons, List.length_cons, keysOf_len h3]
theorem nkL_app : ∀ a b : List P, P.nkL (a ++ b) = P.nkL a ++ P.nkL b
  | [], b => rfl
  | x :: a, b => by rw [List.cons_append, P.nkL, P.nkL, nkL_app a b]; rfl
theorem dOf_pre {T : Bool} {a b : List (P × P)} {o : MO} (h : dOf T (a ++ b) = some o) : ∃ o', dOf T a = some o' := by
  unfold dOf at h ⊢
  cases T with
  | true =>
    rw [if_pos rfl] at h ⊢
    split at h
    · rename_i hc
      rw [List.all_append, Bool.and_eq_true, List.map_append, nkL_app, List.nodup_append, List.length_append] at hc
      exact ⟨_, if_pos ⟨hc.1.1, hc.2.1.1, by omega⟩⟩
    · cases h
  | false =>
    rw [if_neg (by decide)] at h ⊢
    split at h
    · rename_i ks hk
      obtain ⟨k1, k2, e1, e2, e3⟩ := keysOf_append hk
      split at h
      · rename_i hc
        rw [e3, List.nodup_append, List.length_append] at hc
        rw [e1]
        exact ⟨_, if_pos ⟨hc.1.1, by omega⟩⟩
      · cases h
    · cases h
theorem putJ_new {κ : Type} [DecidableEq κ] {ks : List κ} {k : κ} (h : k ∉ ks) : putJ ks k = ks ++ [k] := by
  unfold putJ
  rw [if_neg]
  intro z
  rw [List.any_eq_true] at z
  obtain ⟨j, hj, e⟩ := z
  exact h (by rw [← of_decide_eq_true e]; exact hj)
theorem putA_new {κ α : Type} [DecidableEq κ] {ks : List κ} {xs : List α} {k : κ} {v : α} (h : k ∉ ks) : putA ks xs k v = xs ++ [v] := by
  unfold putA
  rw [if_neg]
  intro z
  rw [List.any_eq_true] at z
  obtain ⟨j, hj, e⟩ := z
  exact h (by rw [← of_decide_eq_true e]; exact hj)
/-- one more entry -/
theorem puts_d {X : Cx} (hu : X.A.units + 110 < cLine) {T : Bool} {acc : List (P × P)} {k v : P} {o o' : MO} {y z : V} {D : Addr} {B : Hp} {ι : Io} (h1 : dOf T acc = some o) (h2 : dOf T (acc ++ [(k, v)]) = some o') (ob : MObj (gx X) B ι D o) (hid : D ∈ ι.hid)
    (ry : Rep (gx X) B ι k y) (rz : Rep (gx X) B ι v z) : PutsAt X D y z B fun B' => ∃ u, B' = upd B D u ∧ MObj (gx X) (upd B D u) ι D o' := by
  intro Y e1 e2 e3 e4 pins τ s u r E R I ru rr fin
  have mv : ∀ w, Mv ι B ι (upd B D w) := fun w => .hidden hid
  unfold dOf at h1 h2
  cases T with
  | false =>
    rw [if_neg (by decide)] at h1 h2
    split at h1
    case h_2 => cases h1
    rename_i ks hks
    split at h1
    case isFalse => cases h1
    rename_i c1
    cases h1
    split at h2
    case h_2 => cases h2
    rename_i ks2 hks2
    split at h2
    case isFalse => cases h2
    rename_i c2
    cases h2
    obtain ⟨k1, k2, f1, f2, f3⟩ := keysOf_append hks2
    rw [hks] at f1; cases f1
    rw [keysOf] at f2
    obtain ⟨j, hj, f4⟩ := Option.bind_eq_some_iff.mp f2
    have f4 : some [j] = some k2 := f4
    cases f4
    subst f3
    have nj : j ∉ ks := fun z => ((List.nodup_append.mp c2.1).2.2 j z j List.mem_cons_self) rfl
    obtain ⟨vs, hH, hl, rl⟩ := ob
    have ek : y = kV j := ky_rep hj (Rep.rn ry)
    subst ek
    have hl2 : ks.length = vs.length := hl.trans rl.length
    have hz : (ks.zip vs).length < sizeLine := by
      rw [List.length_zip, ← hl2, Nat.min_self, keysOf_len hks, sizeLine_eq]; exact c1.2
    refine d_dictSet (X := Y) I hH hz ru rr fun s' J => fin s' _ J ⟨_, rfl, ?_⟩
    rw [putK_zip hl2, putJ_new nj, putA_new nj, List.map_append]
    refine ⟨vs ++ [z], upd_same, by simp [keysOf_len hks], (RepL.mv (mv _) _ _ rl).append (.one (Rep.mv (mv _) _ _ rz))⟩
  | true =>
    rw [if_pos rfl] at h1 h2
    split at h1
    case isFalse => cases h1
    rename_i c1
    cases h1
    split at h2
    case isFalse => cases h2
    rename_i c2
    cases h2
    obtain ⟨q1, q2, q3⟩ := c2
    rw [List.all_append, Bool.and_eq_true] at q1
    have hkT : keyT k = true := by simpa using q1.2
    rw [List.map_append, nkL_app, List.nodup_append] at q2
    have nk : k.nk ∉ P.nkL (acc.map (·.1)) := fun z => q2.2.2 _ z k.nk (by simp [P.nkL]) rfl
    obtain ⟨oo, ys, vs, hH, tb, t1, t2, r1, w, r2⟩ := ob
    cases k with
    | tup as =>
      obtain ⟨k1, k2⟩ := keyD_of hkT
      have ry0 := ry
      simp only [Rep] at ry0
      obtain ⟨b, bs, eb, _, _⟩ := ry0
      subst eb
      cases ru
      have hpw : gx Y = gx X := by simp only [gx, e1, e2, e3]
      have hkey : (nestedKind Y.prog Y.w).is s.heap (P.tup as).nk b := ⟨Rep.key (X := Y) I _ (.ref b) _ k1 (by rw [hpw]; exact ry) rfl, k2⟩
      have hdict := tab_dict (X := Y) (ks := acc.map (·.1)) I (.inl hH) (by rw [hpw]; exact tb) t1 t2 (by rw [hpw]; exact r1)
      have hylen : ys.length = acc.length := by
        have := congrArg List.length t1
        rw [List.length_map, nkL_len, List.length_map] at this
        exact this
      have new1 : atKey ys (P.tup as).nk = none := by
        cases q : atKey ys (P.tup as).nk with
        | none => rfl
        | some p =>
          exfalso
          have ea : (atKey ys (P.tup as).nk).isSome = (P.nkL (acc.map (·.1))).any fun j => decide (j = (P.tup as).nk) := by rw [atKey_any, t1]
          rw [q] at ea
          have ea := ea.symm
          rw [Option.isSome_some, List.any_eq_true] at ea
          obtain ⟨j, hj, ej⟩ := ea
          exact nk (by rw [← of_decide_eq_true ej]; exact hj)
      refine wpAny_dictSet_heap (knd := nestedKind Y.prog Y.w) (by show Y.A.units + 8 < cLine; rw [e4]; omega) hkey hdict (fun h' dd' hs => ?_) tb.len
      rw [storedH_new new1] at dd'
      obtain ⟨o2, es2, ep2, ho2, hex2, hd2, he2, hk2, hn2⟩ := dd'
      have tab2 : TabO (gx X) D o2 (ys ++ [((P.tup as).nk, b, r)]) := ⟨hex2, ⟨es2, ep2, hd2, by rw [he2, e1, e2]⟩, hn2, tb.sys, by rw [List.length_append, hylen, sizeLine_eq]; simp at q3 ⊢; omega, fun y hy => (hk2 y hy).2⟩
      have okO : ObjOk Y.prog Y.w (upd B D (ExactO D o2)) h' D (ExactO D o2) := ⟨ho2, ⟨o2, ho2⟩, fun h1 h2 e k => k _ e⟩
      refine fin _ _ (d_write I (by rw [hH]; exact True.intro) hs ⟨o2, ho2⟩ okO) ⟨_, rfl, o2, _, vs ++ [z], upd_same, tab2, ?_, ?_, ?_, ?_, ?_⟩
      · rw [List.map_append, List.map_append, t1, nkL_app]; rfl
      · rw [List.map_append]
        show P.keyedL (acc.map (·.1) ++ [P.tup as]) = true
        rw [keyedL_append, t2, k1]; rfl
      · rw [List.map_append, List.map_append]; exact (RepL.mv (mv _) _ _ r1).append (.one (Rep.mv (mv _) _ _ ry))
      · rw [List.map_append]; exact Vals.append w (.cons rr .nil)
      · rw [List.map_append]; exact (RepL.mv (mv _) _ _ r2).append (.one (Rep.mv (mv _) _ _ rz))
    | _ => cases hkT
/-- the new object -/
def empD (T : Bool) (D : Addr) : HO := if T = true then ExactO D { cls := .type "dict", data := .dict #[] } else .dK []
theorem empD_ok {P : Program} {w : World} (T : Bool) (H : Hp) (h : Heap) (big : sysModules < h.objs.size) : ObjOk P w H (h.push { cls := .type "dict", data := .dict #[] }) h.objs.size (empD T h.objs.size) := by
  cases T with
  | true => exact ⟨Heap.get?_push_size _ rfl, ⟨_, Heap.get?_push_size _ rfl⟩, fun h1 h2 e k => k _ e⟩
  | false => exact dk_empty h big
theorem empD_obj {G : Gx} {ι : Io} (T : Bool) {H : Hp} {D : Addr} (hs : (D == sysModules) = false) : ∃ o, dOf T [] = some o ∧ MObj G (upd H D (empD T D)) ι D o := by
  cases T with
  | true =>
    exact ⟨.dT [] [], rfl, { cls := .type "dict", data := .dict #[] }, [], [], upd_same, ⟨⟨rfl, rfl, rfl⟩, ⟨#[], _, rfl, rfl⟩, List.nodup_nil, hs, Nat.zero_le _, fun y hy => by cases hy⟩, rfl, rfl, .nil, .nil, .nil⟩
  | false => exact ⟨.dK [] [], rfl, [], upd_same, rfl, .nil⟩
section
variable {X : Cx} {W : WX} {kx vx tg iter : Expr} {scope : Scope} {own : List (Str × Nat)} {pos : Pos} {fi : FI} {g : FG} {fk fv : FE} {is : List Nat}
theorem dc_conv {tz : Bool} (hu : X.A.units + 110 < cLine) (T : Bool) (hs : ∀ i ∈ is, i ∈ own.map (·.2)) (τ : L2.St) (B : Hp) (Q : VK) (h : tD X W (sDc T fi g fk fv (own.map (·.2))) τ B Q) :
    tDz X (empD T) (tDI X W tz fi) (tDG X tz g is) (tD X WN fk) (tD X WN fv) (own.map (·.2)) τ B Q := by
  obtain ⟨δ, m, ι, S, M, h⟩ := h
  refine ⟨δ, m, ι, S, M, h.seq fun it m1 J B1 ι1 _ s1 M1 R1 h1 D hD sysD => ?_⟩
  have S1 := S.step s1
  obtain ⟨zs, mz, ez, h2⟩ := ERP.okOf h1
  unfold newD at h2
  split at h2
  case h_2 => exact h2.elim
  rename_i oz hz
  obtain ⟨o0, he, ob0⟩ := empD_obj (G := gx X) (ι := ι1.hide D) T (H := B1) sysD
  refine ⟨fun i n B => n = it.items.length - i ∧ i ≤ it.items.length ∧ ∃ m ι acc ps o, KH (gx X) D ι1 B1 ι B m ∧ dOf T acc = some o ∧ MObj (gx X) B ι D o ∧ dcL g fk fv it.ok (wipeD δ (own.map (·.2))) (it.items.drop i) m = .ok ps mz ∧ acc ++ ps = zs,
    ⟨_, rfl, Nat.zero_le _, m1, ι1.hide D, [], zs, o0, .start M1 hD, he, ob0, ez, rfl⟩, ?_⟩
  rintro i n B2 ⟨rfl, hi, m2, ι2, acc, ps, o, kh, ho, ob, e2, ea⟩
  have S2 : SRel (gx X) B2 ι2 τ δ := S1.mv (kh.mv hD)
  by_cases hlt : i < it.items.length
  · right
    rw [List.drop_eq_getElem_cons hlt] at e2
    unfold dcL at e2
    split at e2
    case isFalse => cases e2
    rename_i ok
    obtain ⟨go, _⟩ := R1 ι2 B2 m2 (kh.mv hD) kh.mr ok
    obtain ⟨go, yl⟩ := go i it.items[i] (List.getElem?_eq_getElem hlt)
    refine ⟨go, fun B' => ∃ m ι acc ps o, KH (gx X) D ι1 B1 ι B' m ∧ dOf T acc = some o ∧ MObj (gx X) B' ι D o ∧ dcL g fk fv it.ok (wipeD δ (own.map (·.2))) (it.items.drop (i + 1)) m = .ok ps mz ∧ acc ++ ps = zs, fun B' hn => ⟨it.items.length - (i + 1), by omega, rfl, hlt, hn⟩, fun v B' y => ?_⟩
    obtain ⟨sm, rv⟩ := yl v B' y
    split at e2
    case h_2 => cases e2
    rename_i δ3 hg3
    have kh3 := kh.step (.same sm) (kh.mr.same sm)
    have ob3 := kh.hidObj ob (.same sm)
    refine ⟨wipeD δ (own.map (·.2)), ι2, .p it.items[i], δ3, (S2.step (.same sm)).wipe _, .inr ⟨_, rfl, rv⟩, hg3, fun τ4 S4 t4 => ⟨(wipe_sto t4 hs).trans wipe_twice, ?_⟩⟩
    obtain ⟨dk, m3, ek, e3⟩ := bindN_ok e2
    obtain ⟨dv, m4, ev, e4⟩ := bindN_ok e3
    refine ⟨δ3, m2, ι2, S4, kh3.mr, ?_⟩
    rw [ek]
    intro yk B4 ι4 s4 M4 r4
    have kh4 := kh3.step s4 M4
    have ob4 := kh3.hidObj ob3 s4
    refine ⟨δ3, m3, ι4, S4.step s4, M4, ?_⟩
    rw [ev]
    intro zv B5 ι5 s5 M5 r5
    have kh5 := kh4.step s5 M5
    have ob5 := kh4.hidObj ob4 s5
    cases dk with
    | p k =>
      cases dv with
      | p v =>
        obtain ⟨qs, m6, e5, e6⟩ := bindN_ok e4
        cases e6
        obtain ⟨o5, ho5⟩ : ∃ o5, dOf T (acc ++ [(k, v)]) = some o5 := dOf_pre (b := qs) (o := oz) (by rw [← hz, ← ea]; simp)
        intro Y f1 f2 f3 f4 pins υ s u r E R I ru rr fin
        refine puts_d hu ho ho5 ob5 kh5.inh (Rep.step s5 _ _ r4) r5 Y f1 f2 f3 f4 pins υ s u r E R I ru rr fun s' B' J ⟨w, eB, obn⟩ => fin s' B' J ?_
        subst eB
        exact ⟨_, ι5, acc ++ [(k, v)], qs, o5, kh5.put hD, ho5, obn, e5, by rw [← ea]; simp⟩
      | _ => cases e4
    | _ => cases e4
  · left
    have ei : i = it.items.length := by omega
    subst ei
    rw [List.drop_length] at e2
    unfold dcL at e2
    split at e2
    case isFalse => cases e2
    rename_i ok
    cases e2
    rw [List.append_nil] at ea
    subst ea
    rw [ho] at hz
    cases hz
    obtain ⟨u, hu'⟩ := ob.some_
    have nh : D ∉ ι1.hid := fun z => by
      obtain ⟨⟨w, hw⟩, _⟩ := M1.hid D z
      rw [hD] at hw; cases hw
    have mvE : Mw ι2 B2 ⟨ι2.at_ ++ [some D], ι1.hid⟩ B2 := ⟨fun a w h _ => ⟨h.1, fun z => (List.mem_append.mp z).elim h.2.1 fun z => h.2.2 (by
        have : a = D := by simpa using z
        rw [this]; exact kh.inh), fun z => h.2.2 (by rw [kh.hd]; exact List.mem_cons_of_mem _ z)⟩⟩
    obtain ⟨MA, SA⟩ := kh.adopt (u := u) (o := oz) hD (by rw [upd_id hu']; exact MObj.mw mvE ob) nh
    rw [upd_id hu'] at MA SA
    exact ⟨(R1 ι2 B2 _ (kh.mv hD) kh.mr ok).2, h2 _ B2 _ SA MA ⟨D, rfl, .inl (by show (ι2.at_ ++ [some D])[_]? = _; rw [← kh.mr.len]; simp)⟩⟩
end
end DL

set_option Elab.async false
set_option linter.all false
set_option maxRecDepth 100000
/-! The data layer, part s: dict comprehensions, dict(pairs), walks of items and values, get, constants. -/
namespace DL
open PySem PySem.Spec PyProof.Rows L2

/-! ### {k: v for ..} -/
section
variable {X : Cx} {W : WX} {kx vx tg iter : Expr} {scope : Scope} {own : List (Str × Nat)} {pos : Pos} {fi : FI} {g : FG} {fk fv : FE} {is : List Nat}
theorem de_dc (T : Bool) (hu : X.A.units + 110 < cLine) (hc : X.calm = true) (hN : X.N.Nodup) (hi : DI X W tg iter fi) (ok : BlkOk X.N X.env.scope scope own)
    (hg : ∀ (s : Shared) (H : Hp) (C : Addr) (cl : List (Str × Addr)) (fp : List Addr), DG (X.blk s H scope (compEnvC scope cl C X.env) fp) tg g is)
    (hk : ∀ (s : Shared) (H : Hp) (C : Addr) (cl : List (Str × Addr)) (fp : List Addr), DE (X.blk s H scope (compEnvC scope cl C X.env) fp) WN kx fk)
    (hv : ∀ (s : Shared) (H : Hp) (C : Addr) (cl : List (Str × Addr)) (fp : List Addr), DE (X.blk s H scope (compEnvC scope cl C X.env) fp) WN vx fv) (hs : ∀ i ∈ is, i ∈ own.map (·.2) := by decide) (hf : ∀ x, foldedSetIterable iter X.env x = pure x := by intro _; rfl) :
    DE X W (.DictComp kx vx [⟨tg, iter, [], 0⟩] scope pos) (sDc T fi g fk fv (own.map (·.2))) :=
  (pe_dz (u0 := empD T) (wi := tDI X W (isTT tg) fi) (g := tDG X (isTT tg) g is) (tk := tD X WN fk) (tv := tD X WN fv) (fun H h b => empD_ok T H h b) hc hN hi ok hg hk hv hf).conv fun σ H Q h => dc_conv hu T hs σ H Q h
end

/-! ### calls that make a dict -/
def rND (X : Cx) (g : List P → Option MO) : List V → Hp → VK → Prop := fun xs H Q => ∃ ι as o, Paired (fun a x => Rn (gx X) H ι a x) as xs ∧ g as = some o ∧ (∀ p, H p = none → ι.fre p) ∧ ∀ l u, H l = none → MObj (gx X) (upd H l u) (ι.add l) l o → Q (.ref l) (upd H l u)
def sCallD (g : List P → Option MO) (fr : FA) : FE := fun δ m => (fr δ m).bind fun ds m => newD ((views ds m).bind g) m
section
variable {X : Cx} {W : WX} {e : Expr} {es : List Expr} {fr : FA} {x : Str} {p pos : Pos} {T : String} {g : List P → Option MO}
theorem ERP.newD {σ : L2.St} {ι : Io} {H : Hp} {m : Mem} {Q : VK} {ds : List D} {vs : List V} (M : MRel (gx X) H ι m) (r : RepDL (gx X) H ι ds vs) (h : ERP (gx X) W σ ι H (fun H ι => RepD (gx X) H ι) (newD ((views ds m).bind g) m) Q) : rND X g vs H Q := by
  unfold DL.newD at h
  cases q : (views ds m).bind g with
  | none => rw [q] at h; exact h.elim
  | some o =>
    rw [q] at h
    obtain ⟨xs, hx, hz⟩ := Option.bind_eq_some_iff.mp q
    exact ⟨ι, xs, o, rn_views M r hx, hz, fun p hp => M.fresh hp, fun l u hl ob => ERP.alloc (o := o) M hl ob h⟩
theorem de_callTyD (hc : CallR X (.type T) (rND X g)) (hm : X.mg x = none) (hv : bootBuiltins x = some (.type T)) (ha : DA X W (e :: es) fr) (hg : Gl X x := by rfl) (hn : x ≠ "__name__" := by decide) (hdb : (x == ("__debug__" : Str)) = false := by decide)
    (he : starEach (e :: es) X.env = (false, eval e X.env) :: starEach es X.env := by rfl) (hpl : (backTo pos (starEach es X.env)).any (·.1) = false := by rfl) : DE X W (.Call (.Name x p) (e :: es) [] pos) (sCallD g fr) :=
  (pe_callTy hc hg hm hv ha hn hdb he hpl).conv fun σ H Q ⟨δ, m, ι, S, M, h⟩ => ⟨δ, m, ι, S, M, h.seq fun ds m1 vs H1 ι1 _ s1 M1 r1 h1 => ERP.newD M1 r1 h1⟩
end

/-! ### dict(pairs) -/
def pairsOf : List P → Option (List (P × P))
  | [] => some []
  | .tup [k, v] :: ps => (pairsOf ps).map ((k, v) :: ·)
  | _ :: _ => none
theorem pairsOf_eq : ∀ {ps : List P} {qs : List (P × P)}, pairsOf ps = some qs → ps = qs.map fun q => .tup [q.1, q.2]
  | [], qs, h => by cases h; rfl
  | p :: ps, qs, h => by
    unfold pairsOf at h
    split at h
    · rename_i e; cases e
    · rename_i k v ps' e
      cases e
      obtain ⟨r, h1, h2⟩ := Option.map_eq_some_iff.mp h
      rw [← h2, List.map_cons, ← pairsOf_eq h1]
    · cases h
def gDict (T : Bool) : List P → Option MO
  | [.lst ps] => (pairsOf ps).bind fun qs => dOf T qs
  | [.tup ps] => (pairsOf ps).bind fun qs => dOf T qs
  | _ => none
theorem keyedL_all : ∀ {xs : List P}, (∀ x ∈ xs, x.keyed = true) → P.keyedL xs = true
  | [], _ => rfl
  | x :: xs, h => by rw [P.keyedL, h x List.mem_cons_self, keyedL_all fun y hy => h y (List.mem_cons_of_mem _ hy)]; rfl
section
variable {X : Cx}
/-- a tuple, as it stands -/
theorem tup_plain {pins : List (Addr × Obj)} {s : Shared} {σ : L2.St} {H : Hp} {ι : Io} {a : Addr} {vs : List V} (I : Inv X pins σ H s) (t : StT X.K H ι a vs) : ∃ its : List Value, Vals vs its ∧ PlainSeq "tuple" s.heap a its.toArray ∧ vs.length ≤ sizeLine := by
  rcases t with ⟨o, h, hd⟩ | ⟨o, its, n, hk, hc, hd, hdat, hz, w⟩
  · obtain ⟨g, z, its, w, ⟨o', g', hc, n, hdat⟩⟩ := show ObjOk X.prog X.w H s.heap a (.frz o (.tup vs)) from I.hok a _ h.1
    rw [g] at g'; cases g'
    exact ⟨its, w, ⟨o, n, g, hc, hd, hdat⟩, z⟩
  · exact ⟨its.toList, w, ⟨o, n, I.kIn a o hk, hc, hd, by simpa using hdat⟩, by rw [w.length, Array.length_toList]; exact hz⟩
/-- the pairs' own tuples -/
theorem pairs_at {pins : List (Addr × Obj)} {s : Shared} {σ : L2.St} {H : Hp} {ι : Io} (I : Inv X pins σ H s) : ∀ {qs : List (P × P)} {vs : List V} {us : List Value}, RepL (gx X) H ι (qs.map fun q => P.tup [q.1, q.2]) vs → Vals vs us → (∀ q ∈ qs, keyT q.1 = true) →
    ∃ (Ts : List Addr) (ys : List (NestedKey × Addr × Value)) (ws : List V), us = Ts.map Value.ref ∧ vs = Ts.map V.ref ∧ ys.map (·.1) = P.nkL (qs.map (·.1)) ∧ RepL (gx X) H ι (qs.map (·.1)) (ys.map fun y => V.ref y.2.1) ∧ Vals ws (ys.map fun y => y.2.2) ∧ RepL (gx X) H ι (qs.map (·.2)) ws ∧
      (∀ y ∈ ys, (nestedKind X.prog X.w).is s.heap y.1 y.2.1) ∧ Paired (fun (T : Addr) (y : NestedKey × Addr × Value) => s.heap.IsTuple T #[.ref y.2.1, y.2.2]) Ts ys
  | [], vs, us, r, w, _ => by
    simp only [List.map_nil, RepL] at r
    subst r
    cases w
    exact ⟨[], [], [], rfl, rfl, rfl, .nil, .nil, .nil, (fun y hy => by cases hy), .nil⟩
  | (k, v) :: qs, vs, us, r, w, hk => by
    rw [List.map_cons] at r
    simp only [RepL] at r
    obtain ⟨x, t, e, r1, r2⟩ := r
    subst e
    cases w with
    | cons w1 w2 =>
      obtain ⟨Ts, ys, ws, e1, e0, e2, e3, e4, e5, e6, e7⟩ := pairs_at I r2 w2 fun q hq => hk q (List.mem_cons_of_mem _ hq)
      simp only [Rep] at r1
      obtain ⟨T, ts, ex, st, rl⟩ := r1
      subst ex
      cases w1
      simp only [RepL] at rl
      obtain ⟨y, t1, f1, f2, z, t2, f3, f4, f5⟩ := rl
      subst f3 f1 f5
      obtain ⟨its, wi, ht, hl5⟩ := I.tuple st.sq
      cases its with
      | nil => cases wi
      | cons uy its1 =>
      cases wi with
      | cons g1 g2 =>
        cases its1 with
        | nil => cases g2
        | cons uz its2 =>
        cases g2 with
        | cons g3 g4 =>
          cases its2 with
          | cons _ _ => cases g4
          | nil =>
          have hT : keyT k = true := hk (k, v) List.mem_cons_self
          cases k with
          | tup as =>
            obtain ⟨k1, k2⟩ := keyD_of hT
            have f2' := f2
            simp only [Rep] at f2'
            obtain ⟨b, bs, eb, _, _⟩ := f2'
            subst eb
            cases g1
            refine ⟨T :: Ts, ((P.tup as).nk, b, uz) :: ys, z :: ws, by rw [e1]; rfl, by rw [e0]; rfl, ?_, ?_, .cons g3 e4, .cons f4 e5, ?_, .cons ht e7⟩
            · rw [List.map_cons, List.map_cons, e2]; rfl
            · rw [List.map_cons, List.map_cons]; exact .cons f2 e3
            · intro y hy
              rcases List.mem_cons.mp hy with rfl | hy
              · exact ⟨Rep.key I _ (.ref b) _ k1 f2 rfl, k2⟩
              · exact e6 y hy
          | _ => cases hT
theorem storedAll_new : ∀ (ps xs : List (NestedKey × Addr × Value)), ((xs ++ ps).map (·.1)).Nodup → storedAllH xs ps = xs ++ ps
  | [], xs, _ => by simp [storedAllH]
  | p :: ps, xs, nd => by
    have e : atKey xs p.1 = none := by
      cases q : atKey xs p.1 with
      | none => rfl
      | some z =>
        exfalso
        have ea : (atKey xs p.1).isSome = (xs.map (·.1)).any fun j => decide (j = p.1) := atKey_any
        rw [q] at ea
        have ea := ea.symm
        rw [Option.isSome_some, List.any_eq_true] at ea
        obtain ⟨j, hj, ej⟩ := ea
        rw [List.map_append, List.nodup_append] at nd
        exact nd.2.2 j hj p.1 (by simp) (of_decide_eq_true ej)
    show storedAllH (storedH xs p.1 p.2.1 p.2.2) ps = _
    rw [storedH_new e, storedAll_new ps _ (by simpa using nd)]
    simp
theorem paired_getD {R : Addr → (NestedKey × Addr × Value) → Prop} : ∀ {as : List Addr} {bs : List (NestedKey × Addr × Value)}, Paired R as bs → ∀ {i : Nat} {b : NestedKey × Addr × Value}, bs[i]? = some b → R (as.getD i 0) b ∧ as[i]? = some (as.getD i 0)
  | _, _, .nil, i, b, e => by simp at e
  | _, _, .cons h t, 0, b, e => by
    simp at e
    subst e
    exact ⟨by simpa using h, by simp⟩
  | _, _, .cons h t, i + 1, b, e => by
    have := paired_getD t (i := i) (b := b) (by simpa using e)
    simpa using this
theorem c_dictT (hc : X.calm = true) (hu : X.A.units + 110 < cLine) : CallR X (.type "dict") (rND X (gDict true)) := by
  intro pins s σ H xs us Q I r h
  obtain ⟨ι, as, o, pr, g, fr, q⟩ := h
  unfold gDict at g
  have main : ∀ {T : String} {a : Addr} {vs : List V} {its : List Value} {qs : List (P × P)}, (T = "list" ∧ PlainL s.heap a its.toArray) ∨ (T = "tuple" ∧ PlainSeq "tuple" s.heap a its.toArray) → RepL (gx X) H ι (qs.map fun q => P.tup [q.1, q.2]) vs → Vals vs its → dOf true qs = some o → vs.length ≤ sizeLine →
      wpAny (model X.prog X.w) X.A (call (.type "dict") [.ref a]) (EP X pins σ Q) X.xe s := by
    intro T a vs its qs hT rl w ho hz
    unfold dOf at ho
    rw [if_pos rfl] at ho
    split at ho
    case isFalse => cases ho
    rename_i c
    cases ho
    obtain ⟨c1, c2, c3⟩ := c
    obtain ⟨Ts, ys, ws, e1, e0, e2, e3, e4, e5, e6, e7⟩ := pairs_at I rl w fun q hq => List.all_eq_true.mp c1 q hq
    have hlen : ys.length = qs.length := by
      have := congrArg List.length e2
      rw [List.length_map, nkL_len, List.length_map] at this
      exact this
    have hTs : Ts.length = ys.length := Paired.length e7
    have hps : PairItems s.heap its.toArray (fun j => Ts.getD j 0) (ys.map fun y => (Value.ref y.2.1, y.2.2)) := by
      refine ⟨by rw [e1]; simp [hTs], fun j k v hj => ?_⟩
      rw [List.getElem?_map, Option.map_eq_some_iff] at hj
      obtain ⟨y, hy, ey⟩ := hj
      cases ey
      obtain ⟨p1, p2⟩ := paired_getD e7 hy
      refine ⟨?_, .inl p1⟩
      rw [e1]
      simp only [List.getElem?_toArray, List.getElem?_map, p2]
      rfl
    have fin : ∀ h' tk, h'.DictOfH (nestedKind X.prog X.w) s.heap.objs.size (storedAllH [] ys) → (∀ b ob, b ∉ ([] : List Addr) → s.heap.get? b = some ob → h'.get? b = some ob) → EP X pins σ Q (.ref s.heap.objs.size) { s with heap := h', toks := tk } := by
      intro h' tk hd hk
      rw [storedAll_new ys [] (by rw [List.nil_append, e2]; exact c2), List.nil_append] at hd
      obtain ⟨o2, es2, ep2, ho2, hex2, hd2, he2, hk2, hn2⟩ := hd
      have hfree := I.hok.fresh (Nat.le_refl s.heap.objs.size)
      have tab2 : TabO (gx X) s.heap.objs.size o2 ys := ⟨hex2, ⟨es2, ep2, hd2, he2⟩, hn2, beq_eq_false_iff_ne.mpr (Ne.symm (Nat.ne_of_lt I.big)), by rw [hlen, sizeLine_eq]; omega, fun y hy => (hk2 y hy).2⟩
      have okO : ObjOk X.prog X.w (upd H s.heap.objs.size (ExactO s.heap.objs.size o2)) h' s.heap.objs.size (ExactO s.heap.objs.size o2) := ⟨ho2, ⟨o2, ho2⟩, fun h1 h2 e k => k _ e⟩
      refine ⟨.ref s.heap.objs.size, _, I.laid (t' := tk) (fun b ob e => hk b ob (by simp) e) (Nat.le_refl _) okO, rfl, q _ _ hfree ⟨o2, ys, ws, upd_same, tab2, e2, ?_, RepL.step (.alloc hfree) _ _ e3, e4, RepL.step (.alloc hfree) _ _ e5⟩⟩
      refine keyedL_all fun x hx => ?_
      obtain ⟨q, hq, rfl⟩ := List.mem_map.mp hx
      have := List.all_eq_true.mp c1 q hq
      cases h : q.1 with
      | tup zs => rw [h] at this; exact (keyD_of this).1
      | _ => rw [h] at this; cases this
    have room : (nestedKind X.prog X.w).room X.A.in1.in1 := by show X.A.units + 2 + 8 < cLine; omega
    have hc' : PairsHaveH (nestedKind X.prog X.w) (ys.map fun y => (Value.ref y.2.1, y.2.2)).length (PairRel (ys.map fun y => (Value.ref y.2.1, y.2.2))) ys := by
      refine ⟨by simp, fun i key v hr => ?_⟩
      have hr : (ys.map fun y => (Value.ref y.2.1, y.2.2))[i]? = some (key, v) := hr
      rw [List.getElem?_map, Option.map_eq_some_iff] at hr
      obtain ⟨y, hy, ey⟩ := hr
      cases ey
      exact ⟨y.1, y.2.1, hy, rfl⟩
    have stay : KeysStay (nestedKind X.prog X.w) s.heap s.heap.objs.size [] ys := fun h' hk y hy => nestedKind_stays.stays (fun b ob _ _ e _ => hk b ob (Nat.ne_of_lt (Heap.lt_size e)) (by simp) e) (e6 y hy)
    have hz' : (ys.map fun y => (Value.ref y.2.1, y.2.2)).length ≤ sizeLine := by rw [List.length_map, hlen, sizeLine_eq]; omega
    rcases hT with ⟨rfl, hl⟩ | ⟨rfl, hl⟩
    · exact call_dict_pairsH (PairArg.list a its.toArray _ _) (I.ok.hd hc) room ⟨hl, hps⟩ hc' stay hz' fin
    · exact call_dict_pairsH (PairArg.tuple a its.toArray _ _) (I.ok.hd hc) room ⟨hl, hps⟩ hc' stay hz' fin
  split at g
  · obtain ⟨qs, g1, g2⟩ := Option.bind_eq_some_iff.mp g
    obtain ⟨x, rfl, rx⟩ := paired1 pr rfl
    obtain ⟨a, vs, rfl, t, rl⟩ := rn_lst rx
    obtain ⟨its, w, hl, hz⟩ := I.list (.inl t)
    rw [Vals.ref1 r]
    obtain ⟨ob, n, p1, p2, p3, p4⟩ := hl
    exact main (.inl ⟨rfl, ⟨ob, n, p1, p2, p3, p4⟩⟩) (by rw [← pairsOf_eq g1]; exact rl) (by simpa using w) g2 hz
  · obtain ⟨qs, g1, g2⟩ := Option.bind_eq_some_iff.mp g
    obtain ⟨x, rfl, rx⟩ := paired1 pr rfl
    obtain ⟨a, vs, rfl, t, rl⟩ := rn_tup rx
    obtain ⟨its, w, hp, hz⟩ := tup_plain I t
    rw [Vals.ref1 r]
    exact main (.inr ⟨rfl, hp⟩) (by rw [← pairsOf_eq g1]; exact rl) w g2 hz
  · cases g
theorem pairs_atK {pins : List (Addr × Obj)} {s : Shared} {σ : L2.St} {H : Hp} {ι : Io} (I : Inv X pins σ H s) : ∀ {qs : List (P × P)} {vs : List V} {us : List Value} {ks : List Key}, RepL (gx X) H ι (qs.map fun q => P.tup [q.1, q.2]) vs → Vals vs us → keysOf qs = some ks →
    ∃ (Ts : List Addr) (ys : List (Key × Value × Value)) (ws : List V), us = Ts.map Value.ref ∧ ys.map (·.1) = ks ∧ Vals ws (ys.map fun y => y.2.2) ∧ RepL (gx X) H ι (qs.map (·.2)) ws ∧
      (∀ y ∈ ys, (mixKind X.prog X.w).is y.1 y.2.1 = true) ∧ Paired (fun (T : Addr) (y : Key × Value × Value) => s.heap.IsTuple T #[y.2.1, y.2.2]) Ts ys
  | [], vs, us, ks, r, w, hk => by
    simp only [List.map_nil, RepL] at r
    subst r
    cases w
    cases hk
    exact ⟨[], [], [], rfl, rfl, .nil, .nil, (fun y hy => by cases hy), .nil⟩
  | (k, v) :: qs, vs, us, ks, r, w, hk => by
    rw [List.map_cons] at r
    simp only [RepL] at r
    obtain ⟨x, t, e, r1, r2⟩ := r
    subst e
    rw [keysOf] at hk
    obtain ⟨j, hj, hk2⟩ := Option.bind_eq_some_iff.mp hk
    obtain ⟨kr, hkr, ek⟩ := Option.map_eq_some_iff.mp hk2
    subst ek
    cases w with
    | cons w1 w2 =>
      obtain ⟨Ts, ys, ws, e1, e2, e4, e5, e6, e7⟩ := pairs_atK I r2 w2 hkr
      simp only [Rep] at r1
      obtain ⟨T, ts, ex, st, rl⟩ := r1
      subst ex
      cases w1
      simp only [RepL] at rl
      obtain ⟨y, t1, f1, f2, z, t2, f3, f4, f5⟩ := rl
      subst f3 f1 f5
      obtain ⟨its, wi, ht, hl5⟩ := I.tuple st.sq
      cases its with
      | nil => cases wi
      | cons uy its1 =>
      cases wi with
      | cons g1 g2 =>
        cases its1 with
        | nil => cases g2
        | cons uz its2 =>
        cases g2 with
        | cons g3 g4 =>
          cases its2 with
          | cons _ _ => cases g4
          | nil =>
            have ey : y = kV j := ky_rep hj (Rep.rn f2)
            subst ey
            refine ⟨T :: Ts, (j, uy, uz) :: ys, z :: ws, by rw [e1]; rfl, by rw [List.map_cons, e2], .cons g3 e4, .cons f4 e5, ?_, .cons ht e7⟩
            intro y hy
            rcases List.mem_cons.mp hy with rfl | hy
            · exact kV_is g1
            · exact e6 y hy
theorem merged_fresh : ∀ (ps xs : List (Key × Value)), ((xs ++ ps).map (·.1)).Nodup → merged xs ps = xs ++ ps
  | [], xs, _ => by simp [merged]
  | p :: ps, xs, nd => by
    have e : stored xs p.1 p.2 = xs ++ [p] := by
      unfold stored
      rw [if_neg]
      intro z
      rw [List.any_eq_true] at z
      obtain ⟨q, hq, eq⟩ := z
      rw [List.map_append, List.nodup_append] at nd
      exact nd.2.2 q.1 (List.mem_map.mpr ⟨q, hq, rfl⟩) p.1 (by simp) (by simpa using eq)
    show merged (stored xs p.1 p.2) ps = _
    rw [e, merged_fresh ps _ (by simpa using nd)]
    simp
theorem paired_getK {α : Type} {R : Addr → α → Prop} : ∀ {as : List Addr} {bs : List α}, Paired R as bs → ∀ {i : Nat} {b : α}, bs[i]? = some b → R (as.getD i 0) b ∧ as[i]? = some (as.getD i 0)
  | _, _, .nil, i, b, e => by simp at e
  | _, _, .cons h t, 0, b, e => by
    simp at e
    subst e
    exact ⟨by simpa using h, by simp⟩
  | _, _, .cons h t, i + 1, b, e => by
    have := paired_getK t (i := i) (b := b) (by simpa using e)
    simpa using this
theorem kv_zip : ∀ {ks : List Key} {ws : List V} {ys : List (Key × Value × Value)}, ys.map (·.1) = ks → Vals ws (ys.map fun y => y.2.2) → KV (ks.zip ws) (ys.map fun y => (y.1, y.2.2))
  | ks, ws, [], h, w => by
    subst h
    simp only [List.map_nil, List.zip_nil_left]
    exact .nil
  | ks, ws, y :: ys, h, w => by
    subst h
    rw [List.map_cons] at w ⊢
    cases ws with
    | nil => cases w
    | cons v ws =>
      cases w with
      | cons w1 w2 =>
        rw [List.zip_cons_cons, List.map_cons]
        exact .cons ⟨rfl, w1⟩ (kv_zip rfl w2)
theorem c_dictK (hc : X.calm = true) : CallR X (.type "dict") (rND X (gDict false)) := by
  intro pins s σ H xs us Q I r h
  obtain ⟨ι, as, o, pr, g, fr, q⟩ := h
  unfold gDict at g
  have main : ∀ {T : String} {a : Addr} {vs : List V} {its : List Value} {qs : List (P × P)}, (T = "list" ∧ PlainL s.heap a its.toArray) ∨ (T = "tuple" ∧ PlainSeq "tuple" s.heap a its.toArray) → RepL (gx X) H ι (qs.map fun q => P.tup [q.1, q.2]) vs → Vals vs its → dOf false qs = some o → vs.length ≤ sizeLine →
      wpAny (model X.prog X.w) X.A (call (.type "dict") [.ref a]) (EP X pins σ Q) X.xe s := by
    intro T a vs its qs hT rl w ho hz
    unfold dOf at ho
    rw [if_neg (by decide)] at ho
    split at ho
    case h_2 => cases ho
    rename_i ks hks
    split at ho
    case isFalse => cases ho
    rename_i c
    cases ho
    obtain ⟨c2, c3⟩ := c
    obtain ⟨Ts, ys, ws, e1, e2, e4, e5, e6, e7⟩ := pairs_atK I rl w hks
    have hlen : ys.length = qs.length := by
      have := congrArg List.length e2
      rw [List.length_map, keysOf_len hks] at this
      exact this
    have hTs : Ts.length = ys.length := Paired.length e7
    have hps : PairItems s.heap its.toArray (fun j => Ts.getD j 0) (ys.map fun y => (y.2.1, y.2.2)) := by
      refine ⟨by rw [e1]; simp [hTs], fun j k v hj => ?_⟩
      rw [List.getElem?_map, Option.map_eq_some_iff] at hj
      obtain ⟨y, hy, ey⟩ := hj
      cases ey
      obtain ⟨p1, p2⟩ := paired_getK e7 hy
      refine ⟨?_, .inl p1⟩
      rw [e1]
      simp only [List.getElem?_toArray, List.getElem?_map, p2]
      rfl
    have nd : ((([] : List (Key × Value)) ++ ys.map fun y => (y.1, y.2.2)).map (·.1)).Nodup := by
      rw [List.nil_append, List.map_map]
      have : (ys.map ((fun x : Key × Value => x.1) ∘ fun y : Key × Value × Value => (y.1, y.2.2))) = ks := by rw [← e2]; rfl
      rw [this]; exact c2
    have fin : ∀ h' tk, h'.DictOf (mixKind X.prog X.w) s.heap.objs.size (merged [] (ys.map fun y => (y.1, y.2.2))) → (∀ b ob, b ∉ ([] : List Addr) → s.heap.get? b = some ob → h'.get? b = some ob) → EP X pins σ Q (.ref s.heap.objs.size) { s with heap := h', toks := tk } := by
      intro h' tk hd hk
      rw [merged_fresh _ _ nd, List.nil_append] at hd
      have hfree := I.hok.fresh (Nat.le_refl s.heap.objs.size)
      have hzw : ks.length = ws.length := by rw [← e2, List.length_map, e4.length, List.length_map]
      have okO : ObjOk X.prog X.w (upd H s.heap.objs.size (.dK (ks.zip ws))) h' s.heap.objs.size (.dK (ks.zip ws)) :=
        ⟨by rw [List.length_zip, ← hzw, Nat.min_self, keysOf_len hks, sizeLine_eq]; omega, beq_eq_false_iff_ne.mpr (Ne.symm (Nat.ne_of_lt I.big)), _, kv_zip e2 e4, hd⟩
      exact ⟨.ref s.heap.objs.size, _, I.laid (t' := tk) (fun b ob e => hk b ob (by simp) e) (Nat.le_refl _) okO, rfl, q _ _ hfree ⟨ws, upd_same, by rw [keysOf_len hks, List.length_map], RepL.step (.alloc hfree) _ _ e5⟩⟩
    have hc' : PairsHave (mixKind X.prog X.w) (ys.map fun y => (y.2.1, y.2.2)).length (PairRel (ys.map fun y => (y.2.1, y.2.2))) (ys.map fun y => (y.1, y.2.2)) := by
      refine ⟨by simp, fun i key v hr => ?_⟩
      have hr : (ys.map fun y => (y.2.1, y.2.2))[i]? = some (key, v) := hr
      rw [List.getElem?_map, Option.map_eq_some_iff] at hr
      obtain ⟨y, hy, ey⟩ := hr
      cases ey
      exact ⟨y.1, by rw [List.getElem?_map, hy]; rfl, e6 y (List.mem_of_getElem? hy)⟩
    have hz' : (ys.map fun y => (y.2.1, y.2.2)).length ≤ sizeLine := by rw [List.length_map, hlen, sizeLine_eq]; omega
    rcases hT with ⟨rfl, hl⟩ | ⟨rfl, hl⟩
    · exact call_dict_pairs (PairArg.list a its.toArray _ _) (I.ok.hd hc) ⟨hl, hps⟩ hc' hz' fin
    · exact call_dict_pairs (PairArg.tuple a its.toArray _ _) (I.ok.hd hc) ⟨hl, hps⟩ hc' hz' fin
  split at g
  · obtain ⟨qs, g1, g2⟩ := Option.bind_eq_some_iff.mp g
    obtain ⟨x, rfl, rx⟩ := paired1 pr rfl
    obtain ⟨a, vs, rfl, t, rl⟩ := rn_lst rx
    obtain ⟨its, w, hl, hz⟩ := I.list (.inl t)
    rw [Vals.ref1 r]
    obtain ⟨ob, n, p1, p2, p3, p4⟩ := hl
    exact main (.inl ⟨rfl, ⟨ob, n, p1, p2, p3, p4⟩⟩) (by rw [← pairsOf_eq g1]; exact rl) (by simpa using w) g2 hz
  · obtain ⟨qs, g1, g2⟩ := Option.bind_eq_some_iff.mp g
    obtain ⟨x, rfl, rx⟩ := paired1 pr rfl
    obtain ⟨a, vs, rfl, t, rl⟩ := rn_tup rx
    obtain ⟨its, w, hp, hz⟩ := tup_plain I t
    rw [Vals.ref1 r]
    exact main (.inr ⟨rfl, hp⟩) (by rw [← pairsOf_eq g1]; exact rl) w g2 hz
  · cases g
end

/-! ### d.items(), d.values() walked; d.get(k, x) -/
/-- the pairs of a dict -/
def itemsOf : Option P → Option (List P)
  | some (.dK ks xs) => some (List.zipWith (fun k x => .tup [keyP k, x]) ks xs)
  | _ => none
def valsOf : Option P → Option (List P)
  | some (.dK _ xs) => some xs
  | _ => none
def toIt (xs : Option (List P)) (m : Mem) : ER Itm := match xs with
  | some xs => .ok ⟨xs, fun _ => true⟩ m
  | none => .bad
/-- a value alone -/
def valP : D → Option P
  | .p x => some x
  | _ => none
def sItI (fa : FE) : FI := fun δ m => (fa δ m).bind fun d m => toIt (itemsOf (valP d)) m
def sItV (fa : FE) : FI := fun δ m => (fa δ m).bind fun d m => toIt (valsOf (valP d)) m
theorem zip_get {ks : List Key} {xs : List P} {vs : List V} {G : Gx} {H : Hp} {ι : Io} (r : RepL G H ι xs vs) {i : Nat} {z : P} (e : (List.zipWith (fun k x => P.tup [keyP k, x]) ks xs)[i]? = some z) : ∃ k x v, (ks.zip vs)[i]? = some (k, v) ∧ z = .tup [keyP k, x] ∧ Rep G H ι x v := by
  rw [List.getElem?_zipWith] at e
  cases hk : ks[i]? with
  | none => rw [hk] at e; simp at e
  | some k =>
    cases hx : xs[i]? with
    | none => rw [hk, hx] at e; simp at e
    | some x =>
      rw [hk, hx] at e
      obtain ⟨v, hv, rv⟩ := r.get hx
      exact ⟨k, x, v, by rw [List.getElem?_zip_eq_some]; exact ⟨hk, hv⟩, (by simpa using e.symm), rv⟩
section
variable {X : Cx} {W : WX} {tg e o f : Expr} {fo fe ff : FE} {apos cpos tpos : Pos} {elts : List Expr} {kk : Nat}
theorem di_items (ho : DE X W o fo) (hbase : attributeBase o "items" X.env (eval o X.env) = eval o X.env := by rfl) (hline : (apos.endLine == cpos.line) = true := by rfl) : DI X W (.Tuple elts kk tpos) (.Call (.Attribute o "items" apos) [] [] cpos) (sItI fo) :=
  (pi_items ho hbase hline).conv fun σ H R ⟨δ, m, ι, S, M, h⟩ => ⟨δ, m, ι, S, M, h.seq fun d m1 v H1 ι1 q s1 M1 r1 h1 => by
    clear q
    unfold toIt at h1
    split at h1
    case h_2 => exact h1.elim
    rename_i zs hz
    cases d with
    | p x =>
      cases x with
      | dK ks xs =>
        cases hz
        simp only [RepD, Rep] at r1
        obtain ⟨a, ob, vs, ev, t, hl, rl⟩ := r1
        refine ⟨a, ob, ks.zip vs, ev, t.1, h1 _ H1 ι1 (.refl _ _) M1 fun ι' H' m' s M ok => ?_⟩
        have h2 := (t.mv s fun ps z => by cases z).1
        have r2 := RepL.mv s _ _ rl
        have lz : (ks.zip vs).length = (List.zipWith (fun k x => P.tup [keyP k, x]) ks xs).length := by rw [List.length_zip, List.length_zipWith, rl.length]
        refine ⟨fun i z ei => ?_, ⟨h2, by rw [lz]; exact Nat.le_refl _⟩⟩
        obtain ⟨k, x, v', e1, e2, e3⟩ := zip_get r2 ei
        refine ⟨⟨h2, (List.getElem?_eq_some_iff.mp e1).1⟩, fun w H'' ⟨T, k', v'', e4, e5, e6, e7⟩ => ?_⟩
        rw [e1] at e4; cases e4
        subst e5 e7 e2
        exact ⟨Same.upd e6, wk_pair e6 (rep_key k) e3⟩
      | _ => cases hz
    | _ => cases hz⟩
theorem di_vals (ho : DE X W o fo) (hbase : attributeBase o "values" X.env (eval o X.env) = eval o X.env := by rfl) (hline : (apos.endLine == cpos.line) = true := by rfl) : DI X W tg (.Call (.Attribute o "values" apos) [] [] cpos) (sItV fo) :=
  (pi_values ho hbase hline).conv fun σ H R ⟨δ, m, ι, S, M, h⟩ => ⟨δ, m, ι, S, M, h.seq fun d m1 v H1 ι1 q s1 M1 r1 h1 => by
    clear q
    unfold toIt at h1
    split at h1
    case h_2 => exact h1.elim
    rename_i zs hz
    cases d with
    | p x =>
      cases x with
      | dK ks xs =>
        cases hz
        simp only [RepD, Rep] at r1
        obtain ⟨a, ob, vs, ev, t, hl, rl⟩ := r1
        refine ⟨a, ob, ks.zip vs, ev, t.1, h1 _ H1 ι1 (.refl _ _) M1 fun ι' H' m' s M ok => ?_⟩
        have h2 := (t.mv s fun ps z => by cases z).1
        have r2 := RepL.mv s _ _ rl
        have lk : ks.length = vs.length := hl.trans rl.length
        refine ⟨fun i z ei => ?_, ⟨h2, by rw [List.length_zip, lk, Nat.min_self, rl.length]; exact Nat.le_refl _⟩⟩
        obtain ⟨v', e1, e3⟩ := r2.get ei
        have hi : i < vs.length := (List.getElem?_eq_some_iff.mp e1).1
        refine ⟨⟨h2, by rw [List.length_zip, lk, Nat.min_self]; exact hi⟩, fun w H'' ⟨e4, k', e5⟩ => ?_⟩
        subst e4
        rw [List.getElem?_zip_eq_some] at e5
        rw [e1] at e5
        cases e5.2
        exact ⟨.refl _, .inl e3⟩
      | _ => cases hz
    | _ => cases hz⟩
/-- d.get(k, x) -/
def pGet2 (a b c : P) : Option P := match a with
  | .dK ks xs => b.ky.map fun k => (lookK k ks xs).getD c
  | _ => none
def isDV : Option P → Bool
  | some (.dK _ _) => true
  | _ => false
def sGet2 (fo fe ff : FE) : FE := fun δ m => (fo δ m).bind fun d m => if isDV (view d m) = true then (fe δ m).bind fun k m => (ff δ m).bind fun x m => match (view d m).bind fun a => (view k m).bind fun b => match x with
    | .p c => pGet2 a b c
    | _ => none with
  | some z => .ok (.p z) m
  | none => .bad else .bad
theorem de_get2 (hu : X.A.units + 110 < cLine) (ho : DE X W o fo) (he : DE X W e fe) (hf : DE X W f ff) (m : M2 X o "get" apos e f cpos) : DE X W (.Call (.Attribute o "get" apos) [e, f] [] cpos) (sGet2 fo fe ff) :=
  (pe_dget2 (by omega) ho he hf m).conv fun σ H Q ⟨δ, m, ι, S, M, h⟩ => ⟨δ, m, ι, S, M, h.seq fun d m1 v H1 ι1 q s1 M1 r1 h1 => by
    clear q
    split at h1
    case isFalse => exact h1.elim
    rename_i hd
    have isd : ∃ a, v = .ref a ∧ IsD H1 a := by
      cases hv : view d m1 with
      | none => rw [hv] at hd; cases hd
      | some x =>
        rw [hv] at hd
        cases x with
        | dK ks xs =>
          obtain ⟨a, vs, ev, t, _⟩ := rn_dK (rn_view M1 r1 hv)
          exact ⟨a, ev, .inl ⟨_, t⟩⟩
        | _ => cases hd
    obtain ⟨a, ev, hia⟩ := isd
    refine ⟨a, ev, hia, δ, m1, ι1, S.step s1, M1, h1.seq fun k m2 y H2 ι2 q s2 M2 r2 h2 => ⟨δ, m2, ι2, S.step (s1.trans s2), M2, h2.seq fun x m3 z H3 ι3 q3 s3 M3 r3 h3 => ?_⟩⟩
    split at h3
    case h_2 => exact h3.elim
    rename_i zz hz
    obtain ⟨pa, ha, hz2⟩ := Option.bind_eq_some_iff.mp hz
    obtain ⟨pb, hb, hz3⟩ := Option.bind_eq_some_iff.mp hz2
    cases x with
    | p c =>
      have hz3 : pGet2 pa pb c = some zz := hz3
      cases pa with
      | dK ks xs =>
        obtain ⟨kk, hk, ek⟩ := Option.map_eq_some_iff.mp hz3
        have rd : RepD (gx X) H3 ι3 d v := r1.step (s2.trans s3)
        obtain ⟨a', vs, ev', t, hl, rl⟩ := rn_dK (rn_view M3 rd ha)
        rw [ev] at ev'; cases ev'
        have ey : y = kV kk := ky_rep hk (rn_view M3 (r2.step s3) hb)
        have lv := lookK_val kk ks xs vs rl
        refine ⟨valV (ks.zip vs) kk, .inl ⟨_, kk, t, ey, rfl⟩, ?_⟩
        cases hlk : lookK kk ks xs with
        | some w =>
          rw [hlk] at lv
          obtain ⟨u, hu1, hu2⟩ := lv
          rw [hlk, Option.getD_some] at ek
          subst ek
          rw [hu1]
          exact h3 _ H3 ι3 (.refl _ _) M3 hu2
        | none =>
          rw [hlk] at lv
          rw [hlk, Option.getD_none] at ek
          subst ek
          rw [lv hl]
          exact h3 _ H3 ι3 (.refl _ _) M3 r3
      | _ => cases hz3
    | _ => cases hz3⟩
end

/-! ### is True, is not False -/
def pIsB (a b : P) : Option P := match a, b with
  | .bl a, .bl b => some (.bl (decide (a = b)))
  | a, .non => some (.bl a.isNon)
  | _, _ => none
def pNotB (a b : P) : Option P := match a, b with
  | .bl a, .bl b => some (.bl (!decide (a = b)))
  | a, .non => some (.bl (!a.isNon))
  | _, _ => none
section
variable {X : Cx}
theorem o_isB : OpR X (compareOp .Is) (rP2 X pIsB) := by
  intro pins s σ H x y v u Q I rx ry h
  obtain ⟨ι, a, b, z, ra, rb, g, fr, q⟩ := h
  unfold pIsB at g
  split at g
  · cases g
    exact op_isBl pins s σ H x y v u Q I rx ry ⟨_, _, rn_bl ra, rn_bl rb, q _ _ (.refl _) rep_bl⟩
  · cases g
    exact o_isN pins s σ H x y v u Q I rx ry ⟨ι, _, _, _, ra, rb, rfl, fr, q⟩
  · cases g
theorem o_notB : OpR X (compareOp .IsNot) (rP2 X pNotB) := by
  intro pins s σ H x y v u Q I rx ry h
  obtain ⟨ι, a, b, z, ra, rb, g, fr, q⟩ := h
  unfold pNotB at g
  split at g
  · cases g
    exact op_notBl pins s σ H x y v u Q I rx ry ⟨_, _, rn_bl ra, rn_bl rb, q _ _ (.refl _) rep_bl⟩
  · cases g
    exact o_notN pins s σ H x y v u Q I rx ry ⟨ι, _, _, _, ra, rb, rfl, fr, q⟩
  · cases g
end
end DL

set_option Elab.async false
set_option linter.all false
set_option maxRecDepth 100000
/-! The data layer, part t: comprehensions whose list is written to. -/
namespace DL
open PySem PySem.Spec PyProof.Rows L2
def mkLM (xs : List P) (m : Mem) : ER D := if xs.length ≤ 16777216 then .ok (.ref m.length) (m ++ [some (.lst xs)]) else .bad
def sLcM (fi : FI) (g : FG) (ft : FB) (fe : FE) (vs : List Nat) : FE := fun δ m => (fi δ m).bind fun it m => (compL g ft (elt fe) it.ok (wipeD δ vs) it.items m).bindN mkLM
section
variable {X : Cx} {W : WX} {tg iter ee : Expr} {ifs : List Expr} {fi : FI} {g : FG} {is : List Nat} {ft : FB} {fe : FE} {pos : Pos} {scope : Scope} {own : List (Str × Nat)}
theorem lc_convM {tz : Bool} (hs : ∀ i ∈ is, i ∈ own.map (·.2)) (σ : L2.St) (H : Hp) (Q : VK) (h : tD X W (sLcM fi g ft fe (own.map (·.2))) σ H Q) :
    tLc (tDI X W tz fi) (tDG X tz g is) (tDB X WN ft) (tD X WN fe) (own.map (·.2)) σ H Q := by
  obtain ⟨δ, m, ι, S, M, h⟩ := h
  refine ⟨δ, m, ι, S, M, h.seq fun it m1 J H1 ι1 _ s1 M1 R1 h1 D hD => ?_⟩
  have S1 := S.step s1
  obtain ⟨zs, mz, ez, h2⟩ := ERP.okOf h1
  unfold mkLM at h2
  split at h2
  case isFalse => exact h2.elim
  rename_i hlen
  refine ⟨fun i k H => k = it.items.length - i ∧ i ≤ it.items.length ∧ ∃ m ι acc ys, KC (gx X) D ι1 H1 ι H m acc ∧ compL g ft (elt fe) it.ok (wipeD δ (own.map (·.2))) (it.items.drop i) m = .ok ys mz ∧ acc ++ ys = zs,
    ⟨_, rfl, Nat.zero_le _, m1, ι1.hide D, [], zs, .start M1 hD, ez, rfl⟩, ?_⟩
  rintro i k H2 ⟨rfl, hi, m2, ι2, acc, ys, kc, e2, ea⟩
  have S2 : SRel (gx X) H2 ι2 σ δ := S1.mv (kc.mv hD)
  by_cases hlt : i < it.items.length
  · right
    rw [List.drop_eq_getElem_cons hlt] at e2
    unfold compL at e2
    split at e2
    case isFalse => cases e2
    rename_i ok
    obtain ⟨go, _⟩ := R1 ι2 H2 m2 (kc.mv hD) kc.mr ok
    obtain ⟨go, yl⟩ := go i it.items[i] (List.getElem?_eq_getElem hlt)
    refine ⟨go, fun H' => ∃ m ι acc ys, KC (gx X) D ι1 H1 ι H' m acc ∧ compL g ft (elt fe) it.ok (wipeD δ (own.map (·.2))) (it.items.drop (i + 1)) m = .ok ys mz ∧ acc ++ ys = zs, fun H' hn => ⟨it.items.length - (i + 1), by omega, rfl, hlt, hn⟩, fun v H' y => ?_⟩
    obtain ⟨sm, rv⟩ := yl v H' y
    split at e2
    · rename_i δ3 hg3
      have kc3 := kc.step (.same sm) (kc.mr.same sm)
      refine ⟨wipeD δ (own.map (·.2)), ι2, .p it.items[i], δ3, (S2.step (.same sm)).wipe _, .inr ⟨_, rfl, rv⟩, hg3, fun σ4 S4 t4 => ⟨(wipe_sto t4 hs).trans wipe_twice, ?_⟩⟩
      obtain ⟨b, m3, eb, e3⟩ := bindN_ok e2
      refine ⟨δ3, m2, ι2, S4, kc3.mr, ?_⟩
      rw [eb]
      rintro b' H4 ι4 s4 M4 rfl
      have kc4 := kc3.step s4 M4
      cases b with
      | false =>
        rw [if_neg (by decide)] at e3 ⊢
        exact ⟨m3, ι4, acc, ys, kc4, e3, ea⟩
      | true =>
        rw [if_pos rfl] at e3 ⊢
        obtain ⟨us, m4, eu, e4⟩ := bindN_ok e3
        obtain ⟨ws, m5, ew, e5⟩ := bindN_ok e4
        cases e5
        unfold elt at eu
        obtain ⟨d, m6, ed, e6⟩ := bindN_ok eu
        refine ⟨δ3, m3, ι4, S4.step s4, M4, ?_⟩
        rw [ed]
        intro v' H5 ι5 s5 M5 r5
        have kc5 := kc4.step s5 M5
        cases d with
        | p y =>
          cases e6
          obtain ⟨vs, hd, r⟩ := kc5.dd
          refine ⟨vs, hd, ?_, _, ι5, acc ++ [y], ws, kc5.push hD hd r r5, ew, by rw [← ea]; simp⟩
          have : acc.length + (([y] ++ ws)).length ≤ 16777216 := by rw [← List.length_append, ea]; exact hlen
          rw [sizeLine_eq, ← r.length]
          simp at this
          omega
        | ref j => cases e6
        | und => cases e6
    · cases e2
  · left
    have ei : i = it.items.length := by omega
    subst ei
    rw [List.drop_length] at e2
    unfold compL at e2
    split at e2
    · rename_i ok
      cases e2
      rw [List.append_nil] at ea
      subst ea
      have nh : D ∉ ι1.hid := fun z => by
        obtain ⟨⟨w, hw⟩, _⟩ := M1.hid D z
        rw [hD] at hw; cases hw
      obtain ⟨vs, hd, r⟩ := kc.dd
      obtain ⟨MA, SA⟩ := kc.kh.adopt (u := .lst vs) (o := .lst acc) hD ⟨vs, upd_same, kc.kh.rep_mv r⟩ nh
      rw [upd_id hd] at MA SA
      exact ⟨(R1 ι2 H2 _ (kc.mv hD) kc.mr ok).2, h2 _ H2 _ SA MA ⟨D, rfl, .inl (by show (ι2.at_ ++ [some D])[_]? = _; rw [← kc.mr.len]; simp)⟩⟩
    · cases e2
theorem de_lcM (hc : X.calm = true) (hN : X.N.Nodup) (hi : DI X W tg iter fi) (ok : BlkOk X.N X.env.scope scope own)
    (hg : ∀ (s : Shared) (H : Hp) (C : Addr) (cl : List (Str × Addr)) (fp : List Addr), DG (X.blk s H scope (compEnvC scope cl C X.env) fp) tg g is) (ht : ∀ (s : Shared) (H : Hp) (C : Addr) (cl : List (Str × Addr)) (fp : List Addr), DBs (X.blk s H scope (compEnvC scope cl C X.env) fp) WN ifs ft)
    (he : ∀ (s : Shared) (H : Hp) (C : Addr) (cl : List (Str × Addr)) (fp : List Addr), DE (X.blk s H scope (compEnvC scope cl C X.env) fp) WN ee fe) (hs : ∀ i ∈ is, i ∈ own.map (·.2) := by decide) (hf : ∀ x, foldedSetIterable iter X.env x = pure x := by intro _; rfl) :
    DE X W (.ListComp ee [⟨tg, iter, ifs, 0⟩] scope pos) (sLcM fi g ft fe (own.map (·.2))) :=
  (pe_lc (wi := tDI X W (isTT tg) fi) (g := tDG X (isTT tg) g is) (tt := tDB X WN ft) (te := tD X WN fe) hc hN hi ok hg ht he hf).conv fun σ H Q h => lc_convM hs σ H Q h
theorem dt_setLcM {i : Nat} {y : Str} {py spos : Pos} (hc : X.calm = true) (hN : X.N.Nodup) (hsw : swapsWith (.ListComp ee [⟨tg, iter, ifs, 0⟩] scope pos) (some (.Name y py)) spos.line X.env = pure true) (hi : DI X W tg iter fi) (ok : BlkOk X.N X.env.scope scope own)
    (hg : ∀ (s : Shared) (H : Hp) (C : Addr) (cl : List (Str × Addr)) (fp : List Addr), DG (X.blk s H scope (compEnvC scope cl C X.env) fp) tg g is) (ht : ∀ (s : Shared) (H : Hp) (C : Addr) (cl : List (Str × Addr)) (fp : List Addr), DBs (X.blk s H scope (compEnvC scope cl C X.env) fp) WN ifs ft)
    (he : ∀ (s : Shared) (H : Hp) (C : Addr) (cl : List (Str × Addr)) (fp : List Addr), DE (X.blk s H scope (compEnvC scope cl C X.env) fp) WN ee fe) (hs : ∀ i ∈ is, i ∈ own.map (·.2) := by decide) (hy : X.N[i]? = some y := by rfl) (hyl : X.env.scope.names.lookup y = some .local := by rfl) (hf : ∀ x, foldedSetIterable iter X.env x = pure x := by intro _; rfl) :
    DT X W (.Assign [.Name y py] (.ListComp ee [⟨tg, iter, ifs, 0⟩] scope pos) spos) (sAsgN (sLcM fi g ft fe (own.map (·.2))) i) :=
  (ps_setLc (wi := tDI X W (isTT tg) fi) (g := tDG X (isTT tg) g is) (tt := tDB X WN ft) (te := tD X WN fe) hc hN hy hyl hsw hi ok hg ht he hf).conv fun E σ H h => lc_convM hs σ H _ (asgN_conv h)
end
end DL

set_option Elab.async false
set_option linter.all false
set_option maxRecDepth 100000
/-! The data layer, part u: assignments of tuples that are built; a list so many times. -/
namespace DL
open PySem PySem.Spec PyProof.Rows L2
section
variable {X : Cx} {W : WX} {fr : FA} {pos : Pos}
theorem tup_sq {G : Gx} {H : Hp} {ι : Io} {m : Mem} {p : Addr} {o : Obj} {vs : List V} (M : MRel G H ι m) (hp : H p = none) (hd : o.dict = none) : SqT G.K (upd H p (.frz o (.tup vs))) p vs :=
  (show StT G.K (upd H p (.frz o (.tup vs))) ι p vs from .inl ⟨o, ⟨upd_same, M.fresh hp⟩, hd⟩).sq
theorem dt_par2o {i j : Nat} {x y : Str} {a b : Expr} {px py pt : Pos} {kt k2 pt2} (hc : X.calm = true) (hN : X.N.Nodup) (ha : DA X W [a, b] fr)
    (hw : swappedStores [.Tuple [.Name x px, .Name y py] kt pt] (.Tuple [a, b] k2 pt2) X.env = pure none := by rfl)
    (hs : swapsWithSole [.Tuple [.Name x px, .Name y py] kt pt] (.Tuple [a, b] k2 pt2) pos.line X.env = pure false := by rfl)
    (hi : X.N[i]? = some x := by rfl) (hj : X.N[j]? = some y := by rfl)
    (hx : Loc X.env.scope x := by first | exact Or.inl rfl | exact Or.inr rfl) (hy : Loc X.env.scope y := by first | exact Or.inl rfl | exact Or.inr rfl)
    (fx : X.fn x = true ∨ X.env.scope.names.lookup x = some .local := by first | exact .inl rfl | exact .inr rfl | assumption) (fy : X.fn y = true ∨ X.env.scope.names.lookup y = some .local := by first | exact .inl rfl | exact .inr rfl | assumption) :
    DT X W (.Assign [.Tuple [.Name x px, .Name y py] kt pt] (.Tuple [a, b] k2 pt2) pos) (sPar2 fr i j) :=
  (ps_asg (pe_tupX ha) (pg_tup hc (pgs_cons (pg_name hN hi hx fx) (pgs_cons (pg_name hN hj hy fy) pgs_nil))) hs hw rfl).conv fun E σ H ⟨δ, m, ι, S, M, h⟩ => ⟨δ, m, ι, S, M, SRP.then S h fun ds m1 vs H1 ι1 _ s1 M1 r1 S1 h1 => by
    split at h1
    · split at h1
      · obtain ⟨v, u, ev, r, r'⟩ := r1.two
        subst ev
        refine ⟨show 2 ≤ sizeLine by decide, fun p o hp hd => ⟨p, [v, u], rfl, tup_sq M1 hp hd, rfl, v, [u], rfl, u, [], rfl, rfl, ?_⟩⟩
        have st : Step ι1 H1 ι1 (upd H1 p (.frz o (.tup [v, u]))) := .same (Same.upd hp)
        exact h1 _ _ ι1 st (M1.same (Same.upd hp)) (((S1.step st).set (r.step st) i).set (r'.step st) j)
      · exact h1.elim
    · exact h1.elim⟩
theorem dt_par3o {i j l : Nat} {x y z : Str} {a b c : Expr} {px py pz pt : Pos} {kt k2 pt2} (hc : X.calm = true) (hN : X.N.Nodup) (ha : DA X W [a, b, c] fr)
    (hw : swappedStores [.Tuple [.Name x px, .Name y py, .Name z pz] kt pt] (.Tuple [a, b, c] k2 pt2) X.env = pure none := by rfl)
    (hs : swapsWithSole [.Tuple [.Name x px, .Name y py, .Name z pz] kt pt] (.Tuple [a, b, c] k2 pt2) pos.line X.env = pure false := by rfl)
    (hi : X.N[i]? = some x := by rfl) (hj : X.N[j]? = some y := by rfl) (hl : X.N[l]? = some z := by rfl)
    (hx : Loc X.env.scope x := by first | exact Or.inl rfl | exact Or.inr rfl) (hy : Loc X.env.scope y := by first | exact Or.inl rfl | exact Or.inr rfl) (hz : Loc X.env.scope z := by first | exact Or.inl rfl | exact Or.inr rfl)
    (fx : X.fn x = true ∨ X.env.scope.names.lookup x = some .local := by first | exact .inl rfl | exact .inr rfl | assumption) (fy : X.fn y = true ∨ X.env.scope.names.lookup y = some .local := by first | exact .inl rfl | exact .inr rfl | assumption) (fz : X.fn z = true ∨ X.env.scope.names.lookup z = some .local := by first | exact .inl rfl | exact .inr rfl | assumption) :
    DT X W (.Assign [.Tuple [.Name x px, .Name y py, .Name z pz] kt pt] (.Tuple [a, b, c] k2 pt2) pos) (sPar3 fr i j l) :=
  (ps_asg (pe_tupX ha) (pg_tup hc (pgs_cons (pg_name hN hi hx fx) (pgs_cons (pg_name hN hj hy fy) (pgs_cons (pg_name hN hl hz fz) pgs_nil)))) hs hw rfl).conv fun E σ H ⟨δ, m, ι, S, M, h⟩ => ⟨δ, m, ι, S, M, SRP.then S h fun ds m1 vs H1 ι1 _ s1 M1 r1 S1 h1 => by
    split at h1
    · split at h1
      · obtain ⟨v, u, w, ev, r, r', r''⟩ := r1.three
        subst ev
        refine ⟨show 3 ≤ sizeLine by decide, fun p o hp hd => ⟨p, [v, u, w], rfl, tup_sq M1 hp hd, rfl, v, [u, w], rfl, u, [w], rfl, w, [], rfl, rfl, ?_⟩⟩
        have st : Step ι1 H1 ι1 (upd H1 p (.frz o (.tup [v, u, w]))) := .same (Same.upd hp)
        exact h1 _ _ ι1 st (M1.same (Same.upd hp)) ((((S1.step st).set (r.step st) i).set (r'.step st) j).set (r''.step st) l)
      · exact h1.elim
    · exact h1.elim⟩
end
/-! ### a list so many times -/
def pMulL : P → P → Option P
  | .lst xs, .int k => if -(2 ^ 63) ≤ k ∧ k < 2 ^ 63 ∧ xs.length * k.toNat ≤ 16777216 then some (.lst (List.replicate k.toNat xs).flatten) else none
  | _, _ => none
theorem rep_many {G : Gx} {H : Hp} {ι : Io} {xs : List P} {vs : List V} (r : RepL G H ι xs vs) : ∀ k : Nat, RepL G H ι (List.replicate k xs).flatten (List.replicate k vs).flatten
  | 0 => .nil
  | k + 1 => by
    rw [List.replicate_succ, List.replicate_succ, List.flatten_cons, List.flatten_cons]
    exact r.append (rep_many r k)
theorem flat_len {α : Type} (xs : List α) : ∀ k : Nat, (List.replicate k xs).flatten.length = xs.length * k
  | 0 => rfl
  | k + 1 => by rw [List.replicate_succ, List.flatten_cons, List.length_append, flat_len xs k, Nat.mul_succ, Nat.add_comm]
theorem arr_rep (its : List Value) (k : Nat) : List.foldl (fun a b => a ++ b) #[] (List.replicate (if its.toArray.isEmpty = true then 0 else k) its.toArray) = (List.replicate k its).flatten.toArray := by
  have main : ∀ (j : Nat) (a : List Value), List.foldl (fun a b => a ++ b) a.toArray (List.replicate j its.toArray) = (a ++ (List.replicate j its).flatten).toArray := by
    intro j
    induction j with
    | zero => intro a; simp
    | succ j ih =>
      intro a
      rw [List.replicate_succ, List.foldl_cons, List.replicate_succ, List.flatten_cons]
      have e : a.toArray ++ its.toArray = (a ++ its).toArray := by simp
      rw [e, ih, List.append_assoc]
  have z := main (if its.toArray.isEmpty = true then 0 else k) []
  rw [List.nil_append] at z
  refine z.trans ?_
  cases its with
  | nil => simp
  | cons a l => rw [if_neg (by simp)]
theorem o_mulL {X : Cx} : OpR X (binaryOp .Mult) (rP2 X pMulL) := by
  intro pins s σ H x y v u Q I rx ry h
  obtain ⟨ι, a, b, z, ra, rb, g, fr, q⟩ := h
  unfold pMulL at g
  split at g
  · rename_i xs k
    split at g
    · rename_i hk
      cases g
      obtain ⟨p, vs, e, t, r⟩ := rn_lst ra
      have eb := rn_int rb
      subst e eb
      cases rx
      obtain ⟨tk, rfl⟩ := ry
      obtain ⟨_, its, n, w, hp⟩ := lst_rd I t
      have hlen : its.toArray.size * k.toNat ≤ sizeLine := by rw [List.size_toArray, ← w.length, sizeLine_eq, ← r.length]; exact hk.2.2
      have hcap : ¬ its.toArray.size * k.toNat > (2 ^ 63 - 1) / 8 := by
        rw [sizeLine_eq] at hlen
        omega
      have hfit : ¬ (!Builtin.List.listFitsIndex k) = true := by
        rw [fitsIndex_both hk.1 hk.2.1]
        decide
      have hlong : ¬ Builtin.List.listTooLong (its.toArray.size * k.toNat) = true := by
        rw [notLongL hlen]
        decide
      refine wpAny_binaryOp_repeat_ref (U := "int") (T := "list") (by decide) ⟨_, hp, rfl⟩ (fun s' => typeIs_int s' k tk) noFill_list_mul F.fills_int_mul F.slot_int_rmul repeat_list F.slot_int_index.lookup ?_
      refine call_meets F.slot_int_rmul (typeIs_int s k tk) F.entry_int_rmul (F.args_int_rmul_2 _ _) (int___rmul___int_list k tk p its.toArray n) ⟨hp, rfl, ⟨_, hp, rfl⟩, ?_⟩
      refine call_meets F.slot_list_mul ⟨_, hp, rfl⟩ F.entry_list_mul (F.args_list_mul_2 _ _) (AutoListH.list___mul___list_int_3 p its.toArray n k tk hfit hcap hlong) ⟨hp, ?_⟩
      rw [arr_rep]
      have hz : (List.replicate k.toNat vs).flatten.length ≤ sizeLine := by rw [flat_len, sizeLine_eq, ← r.length]; exact hk.2.2
      exact ⟨.ref _, _, I.lnew (t' := s.toks) (w.rep k.toNat) hz, rfl, q _ _ (Same.upd I.fresh) (rep_lst I.fresh (fr _ I.fresh) (rep_many r k.toNat))⟩
    · cases g
  · cases g
/-! ### sum(x) -/
def numsP : List P → Option (List Int)
  | [] => some []
  | .int i :: xs => (numsP xs).map (i :: ·)
  | _ => none
theorem nums_rep {G : Gx} {H : Hp} {ι : Io} : ∀ {xs : List P} {is : List Int} {vs : List V}, numsP xs = some is → RepL G H ι xs vs → vs = is.map V.int
  | [], is, vs, h, r => by cases h; simp only [RepL] at r; exact r
  | x :: xs, is, vs, h, r => by
    cases x with
    | int b =>
      obtain ⟨js, h1, h2⟩ := Option.map_eq_some_iff.mp h
      subst h2
      simp only [RepL] at r
      obtain ⟨v, t, e, r1, r2⟩ := r
      simp only [Rep] at r1
      rw [e, r1, nums_rep h1 r2]
      rfl
    | _ => cases h
def gSum : List P → Option P
  | [.lst xs] => (numsP xs).map fun is => .int is.sum
  | _ => none
theorem c_sum {X : Cx} (hc : X.calm = true) : CallR X (.builtin "sum") (rPL X gSum) := by
  intro pins s σ H xs us Q I r h
  obtain ⟨ι, as, z, pr, g, fr, q⟩ := h
  unfold gSum at g
  split at g
  · obtain ⟨is, h1, h2⟩ := Option.map_eq_some_iff.mp g
    subst h2
    obtain ⟨x, rfl, rx⟩ := paired1 pr rfl
    obtain ⟨a, vs, rfl, t, rl⟩ := rn_lst rx
    rw [nums_rep h1 rl] at t
    exact cr_sum hc pins s σ H _ us Q I r ⟨a, is, rfl, .inl t, q _ _ (.refl _) rep_int⟩
  · cases g
end DL

set_option Elab.async false
set_option linter.all false
set_option maxRecDepth 100000
/-! The data layer, part v: dict() of pairs whose keys, tuples, may come again. -/
namespace DL
open PySem PySem.Spec PyProof.Rows L2
def foldT : List P → List P → List (P × P) → List P × List P
  | ks, xs, [] => (ks, xs)
  | ks, xs, q :: qs => foldT (if ((P.nkL ks).any fun j => decide (j = q.1.nk)) = true then ks else ks ++ [q.1]) (putA (P.nkL ks) xs q.1.nk q.2) qs
def dOfU (qs : List (P × P)) : Option MO := if (qs.all fun q => keyT q.1) = true ∧ qs.length < 16777216 then some (.dT (foldT [] [] qs).1 (foldT [] [] qs).2) else none
def gDictU : List P → Option MO
  | [.lst ps] => (pairsOf ps).bind dOfU
  | [.tup ps] => (pairsOf ps).bind dOfU
  | _ => none
theorem foldT_keys : ∀ (qs : List (P × P)) (ks xs : List P), ∀ x ∈ (foldT ks xs qs).1, x ∈ ks ∨ ∃ q ∈ qs, q.1 = x
  | [], ks, xs, x, h => .inl h
  | q :: qs, ks, xs, x, h => by
    rcases foldT_keys qs _ _ x h with z | ⟨p, hp, e⟩
    · split at z
      · exact .inl z
      · rcases List.mem_append.mp z with z | z
        · exact .inl z
        · exact .inr ⟨q, List.mem_cons_self, (List.mem_singleton.mp z).symm⟩
    · exact .inr ⟨p, List.mem_cons_of_mem _ hp, e⟩
theorem stored_fold {G : Gx} {H : Hp} {ι : Io} : ∀ (qs : List (P × P)) (ys : List (NestedKey × Addr × Value)) (ws' : List V) (zs : List (NestedKey × Addr × Value)) (ks xs : List P) (ws : List V),
    ys.map (·.1) = P.nkL (qs.map (·.1)) → RepL G H ι (qs.map (·.1)) (ys.map fun y => V.ref y.2.1) → Vals ws' (ys.map fun y => y.2.2) → RepL G H ι (qs.map (·.2)) ws' →
    zs.map (·.1) = P.nkL ks → RepL G H ι ks (zs.map fun y => V.ref y.2.1) → Vals ws (zs.map fun y => y.2.2) → RepL G H ι xs ws →
    ∃ ws2, (storedAllH zs ys).map (·.1) = P.nkL (foldT ks xs qs).1 ∧ RepL G H ι (foldT ks xs qs).1 ((storedAllH zs ys).map fun y => V.ref y.2.1) ∧ Vals ws2 ((storedAllH zs ys).map fun y => y.2.2) ∧ RepL G H ι (foldT ks xs qs).2 ws2
  | [], ys, ws', zs, ks, xs, ws, e2, e3, e4, e5, z2, z3, z4, z5 => by
    have : ys = [] := by
      cases ys with
      | nil => rfl
      | cons y ys => simp [P.nkL] at e2
    subst this
    exact ⟨ws, z2, z3, z4, z5⟩
  | q :: qs, ys, ws', zs, ks, xs, ws, e2, e3, e4, e5, z2, z3, z4, z5 => by
    cases ys with
    | nil => simp [P.nkL] at e2
    | cons y ys =>
      rw [List.map_cons, List.map_cons, P.nkL] at e2
      obtain ⟨e2a, e2b⟩ := List.cons.inj e2
      rw [List.map_cons, List.map_cons] at e3
      simp only [RepL] at e3
      obtain ⟨v, t, f1, f2, f3⟩ := e3
      obtain ⟨f1a, f1b⟩ := List.cons.inj f1
      subst f1a f1b
      rw [List.map_cons] at e4
      cases e4 with
      | cons g1 g2 =>
        rw [List.map_cons] at e5
        simp only [RepL] at e5
        obtain ⟨w, t, h1, h2, h3⟩ := e5
        obtain ⟨h1a, h1b⟩ := List.cons.inj h1
        subst h1a h1b
        obtain ⟨k, b, u⟩ := y
        dsimp only at e2a f2 g1
        subst e2a
        have ea : (atKey zs q.1.nk).isSome = (P.nkL ks).any fun j => decide (j = q.1.nk) := by rw [atKey_any, z2]
        have e5' : ∀ z : NestedKey × Addr × Value, (putAt q.1.nk u z).1 = z.1 ∧ (putAt q.1.nk u z).2.1 = z.2.1 := fun z => by unfold putAt; split <;> exact ⟨rfl, rfl⟩
        have step : ∃ ws1, (storedH zs q.1.nk b u).map (·.1) = P.nkL (if ((P.nkL ks).any fun j => decide (j = q.1.nk)) = true then ks else ks ++ [q.1]) ∧ RepL G H ι (if ((P.nkL ks).any fun j => decide (j = q.1.nk)) = true then ks else ks ++ [q.1]) ((storedH zs q.1.nk b u).map fun y => V.ref y.2.1) ∧ Vals ws1 ((storedH zs q.1.nk b u).map fun y => y.2.2) ∧ RepL G H ι (putA (P.nkL ks) xs q.1.nk q.2) ws1 := by
          by_cases hin : ((P.nkL ks).any fun j => decide (j = q.1.nk)) = true
          · have es1 : storedH zs q.1.nk b u = zs.map (putAt q.1.nk u) := by unfold storedH; rw [ea, if_pos hin]
            rw [if_pos hin, es1]
            refine ⟨_, ?_, ?_, ?_, z5.putA h2⟩
            · rw [List.map_map, ← z2]; exact List.map_congr_left fun z _ => (e5' z).1
            · rw [List.map_map]
              have : (zs.map ((fun y : NestedKey × Addr × Value => V.ref y.2.1) ∘ putAt q.1.nk u)) = zs.map fun y => V.ref y.2.1 := List.map_congr_left fun z _ => by show V.ref _ = _; rw [(e5' z).2]
              rw [this]; exact z3
            · rw [List.map_map]
              unfold putA
              rw [if_pos hin, ← z2]
              exact vals_put g1 z4
          · have es1 : storedH zs q.1.nk b u = zs ++ [(q.1.nk, b, u)] := by unfold storedH; rw [ea, if_neg hin]
            rw [if_neg hin, es1]
            refine ⟨_, ?_, ?_, ?_, z5.putA h2⟩
            · rw [List.map_append, z2, nkL_append]; rfl
            · rw [List.map_append]; exact z3.append (.one f2)
            · rw [List.map_append]
              unfold putA
              rw [if_neg hin]
              exact Vals.append z4 (.cons g1 .nil)
        obtain ⟨ws1, s1, s2, s3, s4⟩ := step
        exact stored_fold qs ys _ (storedH zs q.1.nk b u) _ _ ws1 e2b f3 g2 h3 s1 s2 s3 s4
theorem c_dictU {X : Cx} (hc : X.calm = true) (hu : X.A.units + 110 < cLine) : CallR X (.type "dict") (rND X gDictU) := by
  intro pins s σ H xs us Q I r h
  obtain ⟨ι, as, o, pr, g, fr, q⟩ := h
  unfold gDictU at g
  have main : ∀ {T : String} {a : Addr} {vs : List V} {its : List Value} {qs : List (P × P)}, (T = "list" ∧ PlainL s.heap a its.toArray) ∨ (T = "tuple" ∧ PlainSeq "tuple" s.heap a its.toArray) → RepL (gx X) H ι (qs.map fun q => P.tup [q.1, q.2]) vs → Vals vs its → dOfU qs = some o → vs.length ≤ sizeLine →
      wpAny (model X.prog X.w) X.A (call (.type "dict") [.ref a]) (EP X pins σ Q) X.xe s := by
    intro T a vs its qs hT rl w ho hz
    unfold dOfU at ho
    split at ho
    case isFalse => cases ho
    rename_i c
    cases ho
    obtain ⟨c1, c3⟩ := c
    obtain ⟨Ts, ys, ws, e1, e0, e2, e3, e4, e5, e6, e7⟩ := pairs_at I rl w fun q hq => List.all_eq_true.mp c1 q hq
    have hlen : ys.length = qs.length := by
      have := congrArg List.length e2
      rw [List.length_map, nkL_len, List.length_map] at this
      exact this
    have hTs : Ts.length = ys.length := Paired.length e7
    have hps : PairItems s.heap its.toArray (fun j => Ts.getD j 0) (ys.map fun y => (Value.ref y.2.1, y.2.2)) := by
      refine ⟨by rw [e1]; simp [hTs], fun j k v hj => ?_⟩
      rw [List.getElem?_map, Option.map_eq_some_iff] at hj
      obtain ⟨y, hy, ey⟩ := hj
      cases ey
      obtain ⟨p1, p2⟩ := paired_getD e7 hy
      refine ⟨?_, .inl p1⟩
      rw [e1]
      simp only [List.getElem?_toArray, List.getElem?_map, p2]
      rfl
    have fin : ∀ h' tk, h'.DictOfH (nestedKind X.prog X.w) s.heap.objs.size (storedAllH [] ys) → (∀ b ob, b ∉ ([] : List Addr) → s.heap.get? b = some ob → h'.get? b = some ob) → EP X pins σ Q (.ref s.heap.objs.size) { s with heap := h', toks := tk } := by
      intro h' tk hd hk
      obtain ⟨o2, es2, ep2, ho2, hex2, hd2, he2, hk2, hn2⟩ := hd
      have hfree := I.hok.fresh (Nat.le_refl s.heap.objs.size)
      obtain ⟨ws2, s1, s2, s3, s4⟩ := stored_fold qs ys ws [] [] [] [] e2 e3 e4 e5 rfl .nil .nil .nil
      have sl : (storedAllH [] ys).length ≤ ys.length := by have := storedAllH_length ys []; simpa using this
      have tab2 : TabO (gx X) s.heap.objs.size o2 (storedAllH [] ys) := ⟨hex2, ⟨es2, ep2, hd2, he2⟩, hn2, beq_eq_false_iff_ne.mpr (Ne.symm (Nat.ne_of_lt I.big)), by rw [sizeLine_eq]; omega, fun y hy => (hk2 y hy).2⟩
      have okO : ObjOk X.prog X.w (upd H s.heap.objs.size (ExactO s.heap.objs.size o2)) h' s.heap.objs.size (ExactO s.heap.objs.size o2) := ⟨ho2, ⟨o2, ho2⟩, fun h1 h2 e k => k _ e⟩
      refine ⟨.ref s.heap.objs.size, _, I.laid (t' := tk) (fun b ob e => hk b ob (by simp) e) (Nat.le_refl _) okO, rfl, q _ _ hfree ⟨o2, storedAllH [] ys, ws2, upd_same, tab2, s1, ?_, RepL.step (.alloc hfree) _ _ s2, s3, RepL.step (.alloc hfree) _ _ s4⟩⟩
      refine keyedL_all fun x hx => ?_
      obtain ⟨q, hq, rfl⟩ := foldT_keys qs [] [] x hx |>.resolve_left (fun z => by cases z)
      have := List.all_eq_true.mp c1 q hq
      cases h : q.1 with
      | tup zs => rw [h] at this; exact (keyD_of this).1
      | _ => rw [h] at this; cases this
    have room : (nestedKind X.prog X.w).room X.A.in1.in1 := by show X.A.units + 2 + 8 < cLine; omega
    have hc' : PairsHaveH (nestedKind X.prog X.w) (ys.map fun y => (Value.ref y.2.1, y.2.2)).length (PairRel (ys.map fun y => (Value.ref y.2.1, y.2.2))) ys := by
      refine ⟨by simp, fun i key v hr => ?_⟩
      have hr : (ys.map fun y => (Value.ref y.2.1, y.2.2))[i]? = some (key, v) := hr
      rw [List.getElem?_map, Option.map_eq_some_iff] at hr
      obtain ⟨y, hy, ey⟩ := hr
      cases ey
      exact ⟨y.1, y.2.1, hy, rfl⟩
    have stay : KeysStay (nestedKind X.prog X.w) s.heap s.heap.objs.size [] ys := fun h' hk y hy => nestedKind_stays.stays (fun b ob _ _ e _ => hk b ob (Nat.ne_of_lt (Heap.lt_size e)) (by simp) e) (e6 y hy)
    have hz' : (ys.map fun y => (Value.ref y.2.1, y.2.2)).length ≤ sizeLine := by rw [List.length_map, hlen, sizeLine_eq]; omega
    rcases hT with ⟨rfl, hl⟩ | ⟨rfl, hl⟩
    · exact call_dict_pairsH (PairArg.list a its.toArray _ _) (I.ok.hd hc) room ⟨hl, hps⟩ hc' stay hz' fin
    · exact call_dict_pairsH (PairArg.tuple a its.toArray _ _) (I.ok.hd hc) room ⟨hl, hps⟩ hc' stay hz' fin
  split at g
  · obtain ⟨qs, g1, g2⟩ := Option.bind_eq_some_iff.mp g
    obtain ⟨x, rfl, rx⟩ := paired1 pr rfl
    obtain ⟨a, vs, rfl, t, rl⟩ := rn_lst rx
    obtain ⟨its, w, hl, hz⟩ := I.list (.inl t)
    rw [Vals.ref1 r]
    obtain ⟨ob, n, p1, p2, p3, p4⟩ := hl
    exact main (.inl ⟨rfl, ⟨ob, n, p1, p2, p3, p4⟩⟩) (by rw [← pairsOf_eq g1]; exact rl) (by simpa using w) g2 hz
  · obtain ⟨qs, g1, g2⟩ := Option.bind_eq_some_iff.mp g
    obtain ⟨x, rfl, rx⟩ := paired1 pr rfl
    obtain ⟨a, vs, rfl, t, rl⟩ := rn_tup rx
    obtain ⟨its, w, hp, hz⟩ := tup_plain I t
    rw [Vals.ref1 r]
    exact main (.inr ⟨rfl, hp⟩) (by rw [← pairsOf_eq g1]; exact rl) w g2 hz
  · cases g
end DL

set_option Elab.async false
set_option linter.all false
set_option maxRecDepth 100000
set_option maxHeartbeats 0
noncomputable section
namespace DL
open PySem PySem.Spec PyProof.Rows L2
def top (i : Nat) : Stmt := PySem.Challenge.pw_wakebook_k33_whole_more_edges_more_comes.main.body.getD i (.Pass ⟨0, 0, 0, 0⟩)
def k_ASKS : P := .tup [.str "calm", .str "held", .str "over", .str "rung", .str "unheld"]
def k_DEEDS : P := .tup [.str "give", .str "go", .str "hold", .str "hush"]
def k_BEGIN : P := .tup [.int 0, .bl false, .bl false, .int 0]
def fa : List He.Fa := [.free "isinstance", .free "int", .free "bool", .glo "is_whole", .free "str", .free "len", .int "MOST_LETTERS" 8, .str "LETTERS" "abcdefghijklmnopqrstuvwxyz", .free "all", .glo "is_word", .free "tuple", .glo "is_tuple_of", .free "zip", .glo "is_ascending", .glo "is_stands", .glo "ASKS", .str "UNHELD" "unheld", .str "HELD" "held", .str "CALM" "calm", .glo "is_asks", .glo "DEEDS", .glo "is_edge", .int "MOST_EDGES" 24, .free "enumerate", .glo "need_edges", .glo "is_below", .int "MOST_STANDS" 6, .glo "need_kind", .glo "is_pair", .int "MOST_KINDS" 3, .glo "need_house", .glo "books_of", .glo "belows_of", .str "OVER" "over", .str "RUNG" "rung", .str "HUSH" "hush", .str "GIVE" "give", .str "HOLD" "hold", .glo "can_lead", .int "FULL_LEVEL" 3, .int "CALM_LEVEL" 1, .free "min", .int "UNHELD_LEVEL" 2, .glo "led", .glo "ways_on", .free "dict", .free "list", .glo "closure", .glo "BEGIN", .glo "sets_by", .glo "sets_in", .free "sorted", .glo "table_of", .glo "least", .glo "is_shape_of", .int "MOST_DEVICES" 12, .glo "need_shape", .glo "is_at", .glo "levels_of", .free "range", .free "any", .glo "has", .glo "_law_begun", .glo "_law_draw", .glo "_law_some", .glo "_law_order", .glo "_law_asks", .glo "_law_edge", .glo "_law_book", .glo "_law_house", .glo "_law_books", .glo "_law_belows", .glo "_law_shape", .glo "_law_size", .free "sum", .glo "_law_with", .glo "_law_is_within", .glo "law"]
def fn : List He.DefD := [⟨("is_whole", none), "is_whole", "is_whole", defArgs (top 21), defBody (top 21), defScope (top 21), [], []⟩, ⟨("is_word", none), "is_word", "is_word", defArgs (top 22), defBody (top 22), defScope (top 22), [], []⟩, ⟨("is_tuple_of", none), "is_tuple_of", "is_tuple_of", defArgs (top 23), defBody (top 23), defScope (top 23), [], []⟩, ⟨("is_ascending", none), "is_ascending", "is_ascending", defArgs (top 24), defBody (top 24), defScope (top 24), [], []⟩, ⟨("is_stands", none), "is_stands", "is_stands", defArgs (top 25), defBody (top 25), defScope (top 25), [], []⟩, ⟨("is_asks", none), "is_asks", "is_asks", defArgs (top 26), defBody (top 26), defScope (top 26), [], []⟩, ⟨("is_edge", none), "is_edge", "is_edge", defArgs (top 27), defBody (top 27), defScope (top 27), [], []⟩, ⟨("need_edges", none), "need_edges", "need_edges", defArgs (top 28), defBody (top 28), defScope (top 28), [], []⟩, ⟨("is_below", none), "is_below", "is_below", defArgs (top 29), defBody (top 29), defScope (top 29), [], []⟩, ⟨("need_kind", none), "need_kind", "need_kind", defArgs (top 30), defBody (top 30), defScope (top 30), [], []⟩, ⟨("is_pair", none), "is_pair", "is_pair", defArgs (top 31), defBody (top 31), defScope (top 31), [], []⟩, ⟨("need_house", none), "need_house", "need_house", defArgs (top 32), defBody (top 32), defScope (top 32), [], []⟩, ⟨("books_of", none), "books_of", "books_of", defArgs (top 33), defBody (top 33), defScope (top 33), [], []⟩, ⟨("belows_of", none), "belows_of", "belows_of", defArgs (top 34), defBody (top 34), defScope (top 34), [], []⟩, ⟨("can_lead", none), "can_lead", "can_lead", defArgs (top 41), defBody (top 41), defScope (top 41), [], []⟩, ⟨("led", none), "led", "led", defArgs (top 42), defBody (top 42), defScope (top 42), [], []⟩, ⟨("ways_on", none), "ways_on", "ways_on", defArgs (top 43), defBody (top 43), defScope (top 43), [], []⟩, ⟨("closure", none), "closure", "closure", defArgs (top 44), defBody (top 44), defScope (top 44), [], []⟩, ⟨("sets_by", none), "sets_by", "sets_by", defArgs (top 45), defBody (top 45), defScope (top 45), [], []⟩, ⟨("sets_in", none), "sets_in", "sets_in", defArgs (top 46), defBody (top 46), defScope (top 46), [], []⟩, ⟨("table_of", none), "table_of", "table_of", defArgs (top 47), defBody (top 47), defScope (top 47), [], []⟩, ⟨("least", none), "least", "least", defArgs (top 48), defBody (top 48), defScope (top 48), [], []⟩, ⟨("is_shape_of", none), "is_shape_of", "is_shape_of", defArgs (top 51), defBody (top 51), defScope (top 51), [], []⟩, ⟨("need_shape", none), "need_shape", "need_shape", defArgs (top 52), defBody (top 52), defScope (top 52), [], []⟩, ⟨("is_at", none), "is_at", "is_at", defArgs (top 54), defBody (top 54), defScope (top 54), [], []⟩, ⟨("levels_of", none), "levels_of", "levels_of", defArgs (top 55), defBody (top 55), defScope (top 55), [], []⟩, ⟨("has", none), "has", "has", defArgs (top 56), defBody (top 56), defScope (top 56), [], []⟩, ⟨("_law_begun", none), "_law_begun", "_law_begun", defArgs (top 58), defBody (top 58), defScope (top 58), [], []⟩, ⟨("_law_draw", none), "_law_draw", "_law_draw", defArgs (top 59), defBody (top 59), defScope (top 59), [], []⟩, ⟨("_law_some", none), "_law_some", "_law_some", defArgs (top 60), defBody (top 60), defScope (top 60), [], []⟩, ⟨("_law_order", none), "_law_order", "_law_order", defArgs (top 61), defBody (top 61), defScope (top 61), [], []⟩, ⟨("_law_asks", none), "_law_asks", "_law_asks", defArgs (top 62), defBody (top 62), defScope (top 62), [], []⟩, ⟨("_law_edge", none), "_law_edge", "_law_edge", defArgs (top 63), defBody (top 63), defScope (top 63), [], []⟩, ⟨("_law_book", none), "_law_book", "_law_book", defArgs (top 64), defBody (top 64), defScope (top 64), [], []⟩, ⟨("_law_house", none), "_law_house", "_law_house", defArgs (top 65), defBody (top 65), defScope (top 65), [], []⟩, ⟨("_law_books", none), "_law_books", "_law_books", defArgs (top 66), defBody (top 66), defScope (top 66), [], []⟩, ⟨("_law_belows", none), "_law_belows", "_law_belows", defArgs (top 67), defBody (top 67), defScope (top 67), [], []⟩, ⟨("_law_shape", none), "_law_shape", "_law_shape", defArgs (top 68), defBody (top 68), defScope (top 68), [], []⟩, ⟨("_law_size", none), "_law_size", "_law_size", defArgs (top 69), defBody (top 69), defScope (top 69), [], []⟩, ⟨("_law_with", none), "_law_with", "_law_with", defArgs (top 70), defBody (top 70), defScope (top 70), [], []⟩, ⟨("_law_is_within", none), "_law_is_within", "_law_is_within", defArgs (top 71), defBody (top 71), defScope (top 71), [], []⟩, ⟨("law", none), "law", "law", defArgs (top 72), defBody (top 72), defScope (top 72), [], []⟩]
def ex (K : PySem.W.Frag) : Bool := noLists K && He.tupB K "ASKS" (([.str "calm", .str "held", .str "over", .str "rung", .str "unheld"] : List P).map dvP) && He.tupB K "DEEDS" (([.str "give", .str "go", .str "hold", .str "hush"] : List P).map dvP) && He.tupB K "BEGIN" (([.int 0, .bl false, .bl false, .int 0] : List P).map dvP)
theorem ht_ASKS {K : PySem.W.Frag} (h : ex K = true) : He.tupB K "ASKS" (([.str "calm", .str "held", .str "over", .str "rung", .str "unheld"] : List P).map dvP) = true := by
  unfold ex at h
  simp only [Bool.and_eq_true] at h
  exact h.1.1.2
theorem ht_DEEDS {K : PySem.W.Frag} (h : ex K = true) : He.tupB K "DEEDS" (([.str "give", .str "go", .str "hold", .str "hush"] : List P).map dvP) = true := by
  unfold ex at h
  simp only [Bool.and_eq_true] at h
  exact h.1.2
theorem ht_BEGIN {K : PySem.W.Frag} (h : ex K = true) : He.tupB K "BEGIN" (([.int 0, .bl false, .bl false, .int 0] : List P).map dvP) = true := by
  unfold ex at h
  simp only [Bool.and_eq_true] at h
  exact h.2
theorem tp {K : PySem.W.Frag} (h : ex K = true) : tupsPlain K := by
  unfold ex at h
  simp only [Bool.and_eq_true] at h
  exact noLists_tup h.1.1.1
section
variable {P : Program} {w : World} {K : PySem.W.Frag} {mg : Str → Option Value} {base : Heap}
abbrev n_is_whole : List Str := ["value", "least", "most"]
def b_is_whole : FS := (sRet (sAndV (sIs isInt (sName 0)) (sAndV (sNotV (sIs isBool (sName 0))) (sChain pLe pLe (sName 1) (sName 0) (sName 2)))))
def s_is_whole : List D → Mem → ER D := fnS n_is_whole 3 b_is_whole
theorem sc_is_whole : FnScope n_is_whole ["value", "least", "most"] (defScope (top 21)) := ⟨rfl, rfl, rfl, by decide +kernel, rfl, by decide +kernel, by decide +kernel⟩
theorem g_is_whole (Z : Zf fa fn ex K mg) : Callee P w K mg base 1 "is_whole" 3 s_is_whole := Z.dfn (ps := ["value", "least", "most"]) (k := 0) 0 3 rfl rfl rfl sc_is_whole (fun _ _ _ _ _ _ us hl => match us, hl with | [_, _, _], _ => rfl) fun f => by
  intro cdv A outer s H E hr hgd
  have hu := room_hu hr
  have hN : (n_is_whole : List Str).Nodup := sc_is_whole.nd
  have hp : PassesOwn (model P w) (A.deeper (envOfC "is_whole" (defScope (top 21)) s.heap.objs.size f cdv)) (envOfC "is_whole" (defScope (top 21)) s.heap.objs.size f cdv) (cxOf (L2.CX P w) P w K mg base n_is_whole "is_whole" (defScope (top 21)) f cdv A outer s H E).xe := passes_of (X := cxOf (L2.CX P w) P w K mg base n_is_whole "is_whole" (defScope (top 21)) f cdv A outer s H E) rfl
  have tk : Takes (cxOf (L2.CX P w) P w K mg base n_is_whole "is_whole" (defScope (top 21)) f cdv A outer s H E) (WZ E) := takes_of rfl rfl rfl rfl
  exact (dts_one (dt_ret (de_and (de_is tells_int (Z.fr 0) (Z.fr 1) (by decide +kernel) (de_name 0)) (de_and (de_not (de_is tells_bool (Z.fr 0) (Z.fr 2) (by decide +kernel) (de_name 0))) (de_one (de_chain (o_le hu) (o_le hu) (de_name 1) (de_name 0) (de_name 2)))))))
abbrev n_is_word : List Str := ["value", "letter"]
def b_is_word : FS := (sSeq (sIfS (sOrB (sNotB (sB (sIs isText (sName 0)))) (sNotB (sB (sChain pLe pLe (sC (.int 1)) (sCall gLen (sCons (sName 0) sNil)) (sC (.int 8)))))) (sRet (sC (.bl false))) sNx)
    (sRet (sCall gAll (sCons (sLc (sIt (sName 0)) (gN 1) sYes (sOp (pIn false) (sName 1) (sC (.str "abcdefghijklmnopqrstuvwxyz"))) [1]) sNil))))
def s_is_word : List D → Mem → ER D := fnS n_is_word 1 b_is_word
theorem sc_is_word : FnScope n_is_word ["value"] (defScope (top 22)) := ⟨rfl, rfl, rfl, by decide +kernel, rfl, by decide +kernel, by decide +kernel⟩
theorem g_is_word (Z : Zf fa fn ex K mg) : Callee P w K mg base 1 "is_word" 1 s_is_word := Z.dfn (ps := ["value"]) (k := 0) 1 9 rfl rfl rfl sc_is_word (fun _ _ _ _ _ _ us hl => match us, hl with | [_], _ => rfl) fun f => by
  intro cdv A outer s H E hr hgd
  have hu := room_hu hr
  have hN : (n_is_word : List Str).Nodup := sc_is_word.nd
  have hp : PassesOwn (model P w) (A.deeper (envOfC "is_word" (defScope (top 22)) s.heap.objs.size f cdv)) (envOfC "is_word" (defScope (top 22)) s.heap.objs.size f cdv) (cxOf (L2.CX P w) P w K mg base n_is_word "is_word" (defScope (top 22)) f cdv A outer s H E).xe := passes_of (X := cxOf (L2.CX P w) P w K mg base n_is_word "is_word" (defScope (top 22)) f cdv A outer s H E) rfl
  have tk : Takes (cxOf (L2.CX P w) P w K mg base n_is_word "is_word" (defScope (top 22)) f cdv A outer s H E) (WZ E) := takes_of rfl rfl rfl rfl
  exact (dts_cons (dt_if (db_w (dw_or (db_not (db_val (de_is tells_str (Z.fr 0) (Z.fr 4) (by decide +kernel) (de_name 0)))) (dw_or1 (db_not (db_chain (o_le hu) (o_le hu) de_int (de_callB c_len (Z.fr 5) (by decide +kernel) (da_cons (de_name 0) da_nil)) (de_glob (Z.int 6))))))) (dts_one (dt_ret de_bl)) dts_nil)
    (dts_one (dt_ret (de_callB (c_all rfl) (Z.fr 8) (by decide +kernel) (da_cons (de_lc (own := [("letter", 1)]) rfl hN (di_any (de_name 0)) (blkOk_by (own := [("letter", 1)]) (by kernel_rfl)) (fun _ _ _ _ _ => (dg_name hN (i := 1))) (fun _ _ _ _ _ => dbs_nil) (fun _ _ _ _ _ => (de_cmp (o_in hu) (de_name 1) (de_glob (Z.str 7))))) da_nil)))))
abbrev n_is_tuple_of : List Str := ["value", "many"]
def b_is_tuple_of : FS := (sRet (sAndV (sIs isTup (sName 0)) (sOp pEq (sCall gLen (sCons (sName 0) sNil)) (sName 1))))
def s_is_tuple_of : List D → Mem → ER D := fnS n_is_tuple_of 2 b_is_tuple_of
theorem sc_is_tuple_of : FnScope n_is_tuple_of ["value", "many"] (defScope (top 23)) := ⟨rfl, rfl, rfl, by decide +kernel, rfl, by decide +kernel, by decide +kernel⟩
theorem g_is_tuple_of (Z : Zf fa fn ex K mg) : Callee P w K mg base 1 "is_tuple_of" 2 s_is_tuple_of := Z.dfn (ps := ["value", "many"]) (k := 0) 2 11 rfl rfl rfl sc_is_tuple_of (fun _ _ _ _ _ _ us hl => match us, hl with | [_, _], _ => rfl) fun f => by
  intro cdv A outer s H E hr hgd
  have hu := room_hu hr
  have hN : (n_is_tuple_of : List Str).Nodup := sc_is_tuple_of.nd
  have hp : PassesOwn (model P w) (A.deeper (envOfC "is_tuple_of" (defScope (top 23)) s.heap.objs.size f cdv)) (envOfC "is_tuple_of" (defScope (top 23)) s.heap.objs.size f cdv) (cxOf (L2.CX P w) P w K mg base n_is_tuple_of "is_tuple_of" (defScope (top 23)) f cdv A outer s H E).xe := passes_of (X := cxOf (L2.CX P w) P w K mg base n_is_tuple_of "is_tuple_of" (defScope (top 23)) f cdv A outer s H E) rfl
  have tk : Takes (cxOf (L2.CX P w) P w K mg base n_is_tuple_of "is_tuple_of" (defScope (top 23)) f cdv A outer s H E) (WZ E) := takes_of rfl rfl rfl rfl
  exact (dts_one (dt_ret (de_and (de_is tells_tuple (Z.fr 0) (Z.fr 10) (by decide +kernel) (de_name 0)) (de_one (de_cmp (o_eq hu) (de_callB c_len (Z.fr 5) (by decide +kernel) (da_cons (de_name 0) da_nil)) (de_name 1))))))
abbrev n_is_ascending : List Str := ["value", "one", "other"]
def b_is_ascending : FS := (sRet (sCall gAll (sCons (sLc (sItZ (sCons (sName 0) (sCons (sSl (sName 0) (sPart (sC (.int 1))) sNoPart) sNil))) (gT 2 (gsC (gN 1) (gsC (gN 2) gsN))) sYes (sOp pLt (sName 1) (sName 2)) [1, 2]) sNil)))
def s_is_ascending : List D → Mem → ER D := fnS n_is_ascending 1 b_is_ascending
theorem sc_is_ascending : FnScope n_is_ascending ["value"] (defScope (top 24)) := ⟨rfl, rfl, rfl, by decide +kernel, rfl, by decide +kernel, by decide +kernel⟩
theorem g_is_ascending (Z : Zf fa fn ex K mg) : Callee P w K mg base 1 "is_ascending" 1 s_is_ascending := Z.dfn (ps := ["value"]) (k := 0) 3 13 rfl rfl rfl sc_is_ascending (fun _ _ _ _ _ _ us hl => match us, hl with | [_], _ => rfl) fun f => by
  intro cdv A outer s H E hr hgd
  have hu := room_hu hr
  have hN : (n_is_ascending : List Str).Nodup := sc_is_ascending.nd
  have hp : PassesOwn (model P w) (A.deeper (envOfC "is_ascending" (defScope (top 24)) s.heap.objs.size f cdv)) (envOfC "is_ascending" (defScope (top 24)) s.heap.objs.size f cdv) (cxOf (L2.CX P w) P w K mg base n_is_ascending "is_ascending" (defScope (top 24)) f cdv A outer s H E).xe := passes_of (X := cxOf (L2.CX P w) P w K mg base n_is_ascending "is_ascending" (defScope (top 24)) f cdv A outer s H E) rfl
  have tk : Takes (cxOf (L2.CX P w) P w K mg base n_is_ascending "is_ascending" (defScope (top 24)) f cdv A outer s H E) (WZ E) := takes_of rfl rfl rfl rfl
  exact (dts_one (dt_ret (de_callB (c_all rfl) (Z.fr 8) (by decide +kernel) (da_cons (de_lc (own := [("one", 1), ("other", 2)]) rfl hN (di_zip (Z.fr 12) (da_cons (de_name 0) (da_cons (de_sl (de_name 0) (do_some de_int) do_none) da_nil))) (blkOk_by (own := [("one", 1), ("other", 2)]) (by kernel_rfl)) (fun _ _ _ _ _ => (dg_tup rfl (dgs_cons (dg_name hN (i := 1)) (dgs_cons (dg_name hN (i := 2)) dgs_nil)))) (fun _ _ _ _ _ => dbs_nil) (fun _ _ _ _ _ => (de_cmp (o_lt hu) (de_name 1) (de_name 2)))) da_nil))))
abbrev n_is_stands : List Str := ["value", "first", "stands", "stand"]
def b_is_stands : FS := (sSeq (sIfS (sOrB (sNotB (sB (sIs isTup (sName 0)))) (sNotB (sB (sCall gAll (sCons (sLc (sIt (sName 0)) (gN 3) sYes (sFn s_is_whole (sCons (sName 3) (sCons (sName 1) (sCons (sOp pSub (sName 2) (sC (.int 1))) sNil)))) [3]) sNil))))) (sRet (sC (.bl false))) sNx)
    (sRet (sFn s_is_ascending (sCons (sName 0) sNil))))
def s_is_stands : List D → Mem → ER D := fnS n_is_stands 3 b_is_stands
theorem sc_is_stands : FnScope n_is_stands ["value", "first", "stands"] (defScope (top 25)) := ⟨rfl, rfl, rfl, by decide +kernel, rfl, by decide +kernel, by decide +kernel⟩
theorem g_is_stands (Z : Zf fa fn ex K mg) : Callee P w K mg base 2 "is_stands" 3 s_is_stands := Z.dfn (ps := ["value", "first", "stands"]) (k := 1) 4 14 rfl rfl rfl sc_is_stands (fun _ _ _ _ _ _ us hl => match us, hl with | [_, _, _], _ => rfl) fun f => by
  intro cdv A outer s H E hr hgd
  have hu := room_hu hr
  have hN : (n_is_stands : List Str).Nodup := sc_is_stands.nd
  have hp : PassesOwn (model P w) (A.deeper (envOfC "is_stands" (defScope (top 25)) s.heap.objs.size f cdv)) (envOfC "is_stands" (defScope (top 25)) s.heap.objs.size f cdv) (cxOf (L2.CX P w) P w K mg base n_is_stands "is_stands" (defScope (top 25)) f cdv A outer s H E).xe := passes_of (X := cxOf (L2.CX P w) P w K mg base n_is_stands "is_stands" (defScope (top 25)) f cdv A outer s H E) rfl
  have tk : Takes (cxOf (L2.CX P w) P w K mg base n_is_stands "is_stands" (defScope (top 25)) f cdv A outer s H E) (WZ E) := takes_of rfl rfl rfl rfl
  exact (dts_cons (dt_if (db_w (dw_or (db_not (db_val (de_is tells_tuple (Z.fr 0) (Z.fr 10) (by decide +kernel) (de_name 0)))) (dw_or1 (db_not (db_val (de_callB (c_all rfl) (Z.fr 8) (by decide +kernel) (da_cons (de_lc (own := [("stand", 3)]) rfl hN (di_any (de_name 0)) (blkOk_by (own := [("stand", 3)]) (by kernel_rfl)) (fun _ _ _ _ _ => (dg_name hN (i := 3))) (fun _ _ _ _ _ => dbs_nil) (fun _ _ _ _ _ => (de_fn (g_is_whole Z) (hr.mono (by decide)) hgd takes0 (da_cons (de_name 3) (da_cons (de_name 1) (da_cons (de_op o_sub (de_name 2) de_int) da_nil)))))) da_nil))))))) (dts_one (dt_ret de_bl)) dts_nil)
    (dts_one (dt_ret (de_fn (g_is_ascending Z) (hr.mono (by decide)) hgd tk (da_cons (de_name 0) da_nil)))))
abbrev n_is_asks : List Str := ["value", "ask"]
def b_is_asks : FS := (sSeq (sIfS (sOrB (sNotB (sB (sIs isTup (sName 0)))) (sNotB (sB (sCall gAll (sCons (sLc (sIt (sName 0)) (gN 1) sYes (sAndV (sIs isText (sName 1)) (sOp (pIn false) (sName 1) (sC k_ASKS))) [1]) sNil))))) (sRet (sC (.bl false))) sNx)
    (sRet (sAndV (sFn s_is_ascending (sCons (sName 0) sNil)) (sOp pLt (sCall gLen (sCons (sLc (sIt (sName 0)) (gN 1) (sB (sOp (pIn false) (sName 1) (sTup (sCons (sC (.str "calm")) (sCons (sC (.str "held")) (sCons (sC (.str "unheld")) sNil)))))) (sName 1) [1]) sNil)) (sC (.int 2))))))
def s_is_asks : List D → Mem → ER D := fnS n_is_asks 1 b_is_asks
theorem sc_is_asks : FnScope n_is_asks ["value"] (defScope (top 26)) := ⟨rfl, rfl, rfl, by decide +kernel, rfl, by decide +kernel, by decide +kernel⟩
theorem g_is_asks (Z : Zf fa fn ex K mg) : Callee P w K mg base 2 "is_asks" 1 s_is_asks := Z.dfn (ps := ["value"]) (k := 1) 5 19 rfl rfl rfl sc_is_asks (fun _ _ _ _ _ _ us hl => match us, hl with | [_], _ => rfl) fun f => by
  intro cdv A outer s H E hr hgd
  have hu := room_hu hr
  have hN : (n_is_asks : List Str).Nodup := sc_is_asks.nd
  have hp : PassesOwn (model P w) (A.deeper (envOfC "is_asks" (defScope (top 26)) s.heap.objs.size f cdv)) (envOfC "is_asks" (defScope (top 26)) s.heap.objs.size f cdv) (cxOf (L2.CX P w) P w K mg base n_is_asks "is_asks" (defScope (top 26)) f cdv A outer s H E).xe := passes_of (X := cxOf (L2.CX P w) P w K mg base n_is_asks "is_asks" (defScope (top 26)) f cdv A outer s H E) rfl
  have tk : Takes (cxOf (L2.CX P w) P w K mg base n_is_asks "is_asks" (defScope (top 26)) f cdv A outer s H E) (WZ E) := takes_of rfl rfl rfl rfl
  exact (dts_cons (dt_if (db_w (dw_or (db_not (db_val (de_is tells_tuple (Z.fr 0) (Z.fr 10) (by decide +kernel) (de_name 0)))) (dw_or1 (db_not (db_val (de_callB (c_all rfl) (Z.fr 8) (by decide +kernel) (da_cons (de_lc (own := [("ask", 1)]) rfl hN (di_any (de_name 0)) (blkOk_by (own := [("ask", 1)]) (by kernel_rfl)) (fun _ _ _ _ _ => (dg_name hN (i := 1))) (fun _ _ _ _ _ => dbs_nil) (fun _ _ _ _ _ => (de_and (de_is tells_str (Z.fr 0) (Z.fr 4) (by decide +kernel) (de_name 1)) (de_one (de_cmp (o_in hu) (de_name 1) (de_glob (Z.flat 15 (tp Z.ex) rfl (ht_ASKS Z.ex)))))))) da_nil))))))) (dts_one (dt_ret de_bl)) dts_nil)
    (dts_one (dt_ret (de_and (de_fn (g_is_ascending Z) (hr.mono (by decide)) hgd tk (da_cons (de_name 0) da_nil)) (de_one (de_cmp (o_lt hu) (de_callB c_len (Z.fr 5) (by decide +kernel) (da_cons (de_lc (own := [("ask", 1)]) rfl hN (di_any (de_name 0)) (blkOk_by (own := [("ask", 1)]) (by kernel_rfl)) (fun _ _ _ _ _ => (dg_name hN (i := 1))) (fun _ _ _ _ _ => (dbs_one (db_cmp (o_in hu) (de_name 1) (de_tup (da_cons (de_glob (Z.str 18)) (da_cons (de_glob (Z.str 17)) (da_cons (de_glob (Z.str 16)) da_nil))))))) (fun _ _ _ _ _ => (de_name 1))) da_nil)) de_int))))))
abbrev n_is_edge : List Str := ["value", "stands"]
def b_is_edge : FS := (sSeq (sIfS (sOrB (sNotB (sB (sFn s_is_tuple_of (sCons (sName 0) (sCons (sC (.int 4)) sNil))))) (sOrB (sNotB (sB (sFn s_is_asks (sCons (sOp pIx (sName 0) (sC (.int 1))) sNil)))) (sNotB (sB (sIs isText (sOp pIx (sName 0) (sC (.int 2)))))))) (sRet (sC (.bl false))) sNx)
    (sRet (sAndV (sOp (pIn false) (sOp pIx (sName 0) (sC (.int 2))) (sC k_DEEDS)) (sAndV (sFn s_is_whole (sCons (sOp pIx (sName 0) (sC (.int 0))) (sCons (sC (.int 0)) (sCons (sOp pSub (sName 1) (sC (.int 1))) sNil)))) (sFn s_is_whole (sCons (sOp pIx (sName 0) (sC (.int 3))) (sCons (sC (.int 0)) (sCons (sOp pSub (sName 1) (sC (.int 1))) sNil))))))))
def s_is_edge : List D → Mem → ER D := fnS n_is_edge 2 b_is_edge
theorem sc_is_edge : FnScope n_is_edge ["value", "stands"] (defScope (top 27)) := ⟨rfl, rfl, rfl, by decide +kernel, rfl, by decide +kernel, by decide +kernel⟩
theorem g_is_edge (Z : Zf fa fn ex K mg) : Callee P w K mg base 3 "is_edge" 2 s_is_edge := Z.dfn (ps := ["value", "stands"]) (k := 2) 6 21 rfl rfl rfl sc_is_edge (fun _ _ _ _ _ _ us hl => match us, hl with | [_, _], _ => rfl) fun f => by
  intro cdv A outer s H E hr hgd
  have hu := room_hu hr
  have hN : (n_is_edge : List Str).Nodup := sc_is_edge.nd
  have hp : PassesOwn (model P w) (A.deeper (envOfC "is_edge" (defScope (top 27)) s.heap.objs.size f cdv)) (envOfC "is_edge" (defScope (top 27)) s.heap.objs.size f cdv) (cxOf (L2.CX P w) P w K mg base n_is_edge "is_edge" (defScope (top 27)) f cdv A outer s H E).xe := passes_of (X := cxOf (L2.CX P w) P w K mg base n_is_edge "is_edge" (defScope (top 27)) f cdv A outer s H E) rfl
  have tk : Takes (cxOf (L2.CX P w) P w K mg base n_is_edge "is_edge" (defScope (top 27)) f cdv A outer s H E) (WZ E) := takes_of rfl rfl rfl rfl
  exact (dts_cons (dt_if (db_w (dw_or (db_not (db_val (de_fn (g_is_tuple_of Z) (hr.mono (by decide)) hgd tk (da_cons (de_name 0) (da_cons de_int da_nil))))) (dw_or (db_not (db_val (de_fn (g_is_asks Z) (hr.mono (by decide)) hgd tk (da_cons (de_ix hu (de_name 0) de_int) da_nil)))) (dw_or1 (db_not (db_val (de_is tells_str (Z.fr 0) (Z.fr 4) (by decide +kernel) (de_ix hu (de_name 0) de_int)))))))) (dts_one (dt_ret de_bl)) dts_nil)
    (dts_one (dt_ret (de_and (de_cmp (o_in hu) (de_ix hu (de_name 0) de_int) (de_glob (Z.flat 20 (tp Z.ex) rfl (ht_DEEDS Z.ex)))) (de_and (de_fn (g_is_whole Z) (hr.mono (by decide)) hgd tk (da_cons (de_ix hu (de_name 0) de_int) (da_cons de_int (da_cons (de_op o_sub (de_name 1) de_int) da_nil)))) (de_one (de_fn (g_is_whole Z) (hr.mono (by decide)) hgd tk (da_cons (de_ix hu (de_name 0) de_int) (da_cons de_int (da_cons (de_op o_sub (de_name 1) de_int) da_nil))))))))))
abbrev n_need_edges : List Str := ["number", "stands", "edges", "place", "edge"]
def b_need_edges : FS := (sSeq (sIfS (sOrB (sNotB (sB (sIs isTup (sName 2)))) (sB (sOp pGt (sCall gLen (sCons (sName 2) sNil)) (sC (.int 24))))) sBad sNx)
    (sFor (sItE (sCons (sName 2) sNil)) (gT 2 (gsC (gN 3) (gsC (gN 4) gsN))) (sIfS (sOrB (sNotB (sB (sFn s_is_edge (sCons (sName 4) (sCons (sName 1) sNil))))) (sAndB (sB (sOp pGt (sName 3) (sC (.int 0)))) (sNotB (sB (sOp pLt (sOp pIx (sName 2) (sOp pSub (sName 3) (sC (.int 1)))) (sName 4)))))) sBad sNx)))
def s_need_edges : List D → Mem → ER D := fnS n_need_edges 3 b_need_edges
theorem sc_need_edges : FnScope n_need_edges ["number", "stands", "edges"] (defScope (top 28)) := ⟨rfl, rfl, rfl, by decide +kernel, rfl, by decide +kernel, by decide +kernel⟩
theorem g_need_edges (Z : Zf fa fn ex K mg) : Callee P w K mg base 4 "need_edges" 3 s_need_edges := Z.dfn (ps := ["number", "stands", "edges"]) (k := 3) 7 24 rfl rfl rfl sc_need_edges (fun _ _ _ _ _ _ us hl => match us, hl with | [_, _, _], _ => rfl) fun f => by
  intro cdv A outer s H E hr hgd
  have hu := room_hu hr
  have hN : (n_need_edges : List Str).Nodup := sc_need_edges.nd
  have hp : PassesOwn (model P w) (A.deeper (envOfC "need_edges" (defScope (top 28)) s.heap.objs.size f cdv)) (envOfC "need_edges" (defScope (top 28)) s.heap.objs.size f cdv) (cxOf (L2.CX P w) P w K mg base n_need_edges "need_edges" (defScope (top 28)) f cdv A outer s H E).xe := passes_of (X := cxOf (L2.CX P w) P w K mg base n_need_edges "need_edges" (defScope (top 28)) f cdv A outer s H E) rfl
  have tk : Takes (cxOf (L2.CX P w) P w K mg base n_need_edges "need_edges" (defScope (top 28)) f cdv A outer s H E) (WZ E) := takes_of rfl rfl rfl rfl
  exact (dts_cons (dt_if (db_w (dw_or (db_not (db_val (de_is tells_tuple (Z.fr 0) (Z.fr 10) (by decide +kernel) (de_name 2)))) (dw_or1 (db_cmp o_gt (de_callB c_len (Z.fr 5) (by decide +kernel) (da_cons (de_name 2) da_nil)) (de_glob (Z.int 22)))))) (dts_one dt_never) dts_nil)
    (dts_one (dt_for hp rfl (di_enum (Z.fr 23) (da_cons (de_name 2) da_nil)) (dg_tup rfl (dgs_cons (dg_name hN (i := 3)) (dgs_cons (dg_name hN (i := 4)) dgs_nil))) (dts_one (dt_if (db_w (dw_or (db_not (db_val (de_fn (g_is_edge Z) (hr.mono (by decide)) hgd tk (da_cons (de_name 4) (da_cons (de_name 1) da_nil))))) (dw_or1 (db_w (dw_and (db_cmp o_gt (de_name 3) de_int) (dw_and1 (db_not (db_cmp (o_lt hu) (de_ix hu (de_name 2) (de_op o_sub (de_name 3) de_int)) (de_name 4))))))))) (dts_one dt_never) dts_nil)))))
abbrev n_is_below : List Str := ["value", "names", "name"]
def b_is_below : FS := (sSeq (sIfS (sOrB (sNotB (sB (sIs isTup (sName 0)))) (sNotB (sB (sCall gAll (sCons (sLc (sIt (sName 0)) (gN 2) sYes (sAndV (sIs isText (sName 2)) (sOp (pIn false) (sName 2) (sName 1))) [2]) sNil))))) (sRet (sC (.bl false))) sNx)
    (sRet (sFn s_is_ascending (sCons (sName 0) sNil))))
def s_is_below : List D → Mem → ER D := fnS n_is_below 2 b_is_below
theorem sc_is_below : FnScope n_is_below ["value", "names"] (defScope (top 29)) := ⟨rfl, rfl, rfl, by decide +kernel, rfl, by decide +kernel, by decide +kernel⟩
theorem g_is_below (Z : Zf fa fn ex K mg) : Callee P w K mg base 2 "is_below" 2 s_is_below := Z.dfn (ps := ["value", "names"]) (k := 1) 8 25 rfl rfl rfl sc_is_below (fun _ _ _ _ _ _ us hl => match us, hl with | [_, _], _ => rfl) fun f => by
  intro cdv A outer s H E hr hgd
  have hu := room_hu hr
  have hN : (n_is_below : List Str).Nodup := sc_is_below.nd
  have hp : PassesOwn (model P w) (A.deeper (envOfC "is_below" (defScope (top 29)) s.heap.objs.size f cdv)) (envOfC "is_below" (defScope (top 29)) s.heap.objs.size f cdv) (cxOf (L2.CX P w) P w K mg base n_is_below "is_below" (defScope (top 29)) f cdv A outer s H E).xe := passes_of (X := cxOf (L2.CX P w) P w K mg base n_is_below "is_below" (defScope (top 29)) f cdv A outer s H E) rfl
  have tk : Takes (cxOf (L2.CX P w) P w K mg base n_is_below "is_below" (defScope (top 29)) f cdv A outer s H E) (WZ E) := takes_of rfl rfl rfl rfl
  exact (dts_cons (dt_if (db_w (dw_or (db_not (db_val (de_is tells_tuple (Z.fr 0) (Z.fr 10) (by decide +kernel) (de_name 0)))) (dw_or1 (db_not (db_val (de_callB (c_all rfl) (Z.fr 8) (by decide +kernel) (da_cons (de_lc (own := [("name", 2)]) rfl hN (di_any (de_name 0)) (blkOk_by (own := [("name", 2)]) (by kernel_rfl)) (fun _ _ _ _ _ => (dg_name hN (i := 2))) (fun _ _ _ _ _ => dbs_nil) (fun _ _ _ _ _ => (de_and (de_is tells_str (Z.fr 0) (Z.fr 4) (by decide +kernel) (de_name 2)) (de_one (de_cmp (o_in hu) (de_name 2) (de_name 1)))))) da_nil))))))) (dts_one (dt_ret de_bl)) dts_nil)
    (dts_one (dt_ret (de_fn (g_is_ascending Z) (hr.mono (by decide)) hgd tk (da_cons (de_name 0) da_nil)))))
abbrev n_need_kind : List Str := ["number", "kind", "names", "below", "stands", "up", "deaf", "edges"]
def b_need_kind : FS := (sSeq (sAsgG (sName 1) (gT 2 (gsC (gT 4 (gsC (gN 4) (gsC (gN 5) (gsC (gN 6) (gsC (gN 7) gsN))))) (gsC (gN 3) gsN))))
    (sSeq (sIfS (sNotB (sB (sFn s_is_whole (sCons (sName 4) (sCons (sC (.int 1)) (sCons (sC (.int 6)) sNil)))))) sBad sNx)
    (sSeq (sIfS (sNotB (sB (sFn s_is_stands (sCons (sName 5) (sCons (sC (.int 1)) (sCons (sName 4) sNil)))))) sBad sNx)
    (sSeq (sIfS (sNotB (sB (sFn s_is_stands (sCons (sName 6) (sCons (sC (.int 0)) (sCons (sName 4) sNil)))))) sBad sNx)
    (sSeq (sDrop (sFn s_need_edges (sCons (sName 0) (sCons (sName 4) (sCons (sName 7) sNil)))))
    (sIfS (sNotB (sB (sFn s_is_below (sCons (sName 3) (sCons (sName 2) sNil))))) sBad sNx))))))
def s_need_kind : List D → Mem → ER D := fnS n_need_kind 3 b_need_kind
theorem sc_need_kind : FnScope n_need_kind ["number", "kind", "names"] (defScope (top 30)) := ⟨rfl, rfl, rfl, by decide +kernel, rfl, by decide +kernel, by decide +kernel⟩
theorem g_need_kind (Z : Zf fa fn ex K mg) : Callee P w K mg base 5 "need_kind" 3 s_need_kind := Z.dfn (ps := ["number", "kind", "names"]) (k := 4) 9 27 rfl rfl rfl sc_need_kind (fun _ _ _ _ _ _ us hl => match us, hl with | [_, _, _], _ => rfl) fun f => by
  intro cdv A outer s H E hr hgd
  have hu := room_hu hr
  have hN : (n_need_kind : List Str).Nodup := sc_need_kind.nd
  have hp : PassesOwn (model P w) (A.deeper (envOfC "need_kind" (defScope (top 30)) s.heap.objs.size f cdv)) (envOfC "need_kind" (defScope (top 30)) s.heap.objs.size f cdv) (cxOf (L2.CX P w) P w K mg base n_need_kind "need_kind" (defScope (top 30)) f cdv A outer s H E).xe := passes_of (X := cxOf (L2.CX P w) P w K mg base n_need_kind "need_kind" (defScope (top 30)) f cdv A outer s H E) rfl
  have tk : Takes (cxOf (L2.CX P w) P w K mg base n_need_kind "need_kind" (defScope (top 30)) f cdv A outer s H E) (WZ E) := takes_of rfl rfl rfl rfl
  exact (dts_cons (dt_asg (de_name 1) (dg_tup rfl (dgs_cons (dg_tup rfl (dgs_cons (dg_name hN (i := 4)) (dgs_cons (dg_name hN (i := 5)) (dgs_cons (dg_name hN (i := 6)) (dgs_cons (dg_name hN (i := 7)) dgs_nil))))) (dgs_cons (dg_name hN (i := 3)) dgs_nil))))
    (dts_cons (dt_if (db_not (db_val (de_fn (g_is_whole Z) (hr.mono (by decide)) hgd tk (da_cons (de_name 4) (da_cons de_int (da_cons (de_glob (Z.int 26)) da_nil)))))) (dts_one dt_never) dts_nil)
    (dts_cons (dt_if (db_not (db_val (de_fn (g_is_stands Z) (hr.mono (by decide)) hgd tk (da_cons (de_name 5) (da_cons de_int (da_cons (de_name 4) da_nil)))))) (dts_one dt_never) dts_nil)
    (dts_cons (dt_if (db_not (db_val (de_fn (g_is_stands Z) (hr.mono (by decide)) hgd tk (da_cons (de_name 6) (da_cons de_int (da_cons (de_name 4) da_nil)))))) (dts_one dt_never) dts_nil)
    (dts_cons (dt_expr (de_fn (g_need_edges Z) (hr.mono (by decide)) hgd tk (da_cons (de_name 0) (da_cons (de_name 4) (da_cons (de_name 7) da_nil)))))
    (dts_one (dt_if (db_not (db_val (de_fn (g_is_below Z) (hr.mono (by decide)) hgd tk (da_cons (de_name 3) (da_cons (de_name 2) da_nil))))) (dts_one dt_never) dts_nil)))))))
abbrev n_is_pair : List Str := ["item"]
def b_is_pair : FS := (sSeq (sIfS (sOrB (sNotB (sB (sFn s_is_tuple_of (sCons (sName 0) (sCons (sC (.int 2)) sNil))))) (sOrB (sNotB (sB (sFn s_is_word (sCons (sOp pIx (sName 0) (sC (.int 0))) sNil)))) (sNotB (sB (sFn s_is_tuple_of (sCons (sOp pIx (sName 0) (sC (.int 1))) (sCons (sC (.int 2)) sNil))))))) (sRet (sC (.bl false))) sNx)
    (sRet (sFn s_is_tuple_of (sCons (sOp pIx (sOp pIx (sName 0) (sC (.int 1))) (sC (.int 0))) (sCons (sC (.int 4)) sNil)))))
def s_is_pair : List D → Mem → ER D := fnS n_is_pair 1 b_is_pair
theorem sc_is_pair : FnScope n_is_pair ["item"] (defScope (top 31)) := ⟨rfl, rfl, rfl, by decide +kernel, rfl, by decide +kernel, by decide +kernel⟩
theorem g_is_pair (Z : Zf fa fn ex K mg) : Callee P w K mg base 2 "is_pair" 1 s_is_pair := Z.dfn (ps := ["item"]) (k := 1) 10 28 rfl rfl rfl sc_is_pair (fun _ _ _ _ _ _ us hl => match us, hl with | [_], _ => rfl) fun f => by
  intro cdv A outer s H E hr hgd
  have hu := room_hu hr
  have hN : (n_is_pair : List Str).Nodup := sc_is_pair.nd
  have hp : PassesOwn (model P w) (A.deeper (envOfC "is_pair" (defScope (top 31)) s.heap.objs.size f cdv)) (envOfC "is_pair" (defScope (top 31)) s.heap.objs.size f cdv) (cxOf (L2.CX P w) P w K mg base n_is_pair "is_pair" (defScope (top 31)) f cdv A outer s H E).xe := passes_of (X := cxOf (L2.CX P w) P w K mg base n_is_pair "is_pair" (defScope (top 31)) f cdv A outer s H E) rfl
  have tk : Takes (cxOf (L2.CX P w) P w K mg base n_is_pair "is_pair" (defScope (top 31)) f cdv A outer s H E) (WZ E) := takes_of rfl rfl rfl rfl
  exact (dts_cons (dt_if (db_w (dw_or (db_not (db_val (de_fn (g_is_tuple_of Z) (hr.mono (by decide)) hgd tk (da_cons (de_name 0) (da_cons de_int da_nil))))) (dw_or (db_not (db_val (de_fn (g_is_word Z) (hr.mono (by decide)) hgd tk (da_cons (de_ix hu (de_name 0) de_int) da_nil)))) (dw_or1 (db_not (db_val (de_fn (g_is_tuple_of Z) (hr.mono (by decide)) hgd tk (da_cons (de_ix hu (de_name 0) de_int) (da_cons de_int da_nil))))))))) (dts_one (dt_ret de_bl)) dts_nil)
    (dts_one (dt_ret (de_fn (g_is_tuple_of Z) (hr.mono (by decide)) hgd tk (da_cons (de_ix hu (de_ix hu (de_name 0) de_int) de_int) (da_cons de_int da_nil))))))
abbrev n_need_house : List Str := ["house", "names", "number", "item", "name", "kind"]
def b_need_house : FS := (sSeq (sIfS (sOrB (sNotB (sB (sIs isTup (sName 0)))) (sNotB (sB (sChain pLe pLe (sC (.int 1)) (sCall gLen (sCons (sName 0) sNil)) (sC (.int 3)))))) sBad sNx)
    (sSeq (sFor (sItE (sCons (sName 0) sNil)) (gT 2 (gsC (gN 2) (gsC (gN 3) gsN))) (sIfS (sOrB (sNotB (sB (sFn s_is_pair (sCons (sName 3) sNil)))) (sAndB (sB (sOp pGt (sName 2) (sC (.int 0)))) (sNotB (sB (sOp pLt (sOp pIx (sOp pIx (sName 0) (sOp pSub (sName 2) (sC (.int 1)))) (sC (.int 0))) (sOp pIx (sName 3) (sC (.int 0)))))))) sBad sNx))
    (sSeq (sAsgN (sLc (sIt (sName 0)) (gT 2 (gsC (gN 4) (gsC (gN 5) gsN))) sYes (sName 4) [4, 5]) 1)
    (sSeq (sFor (sItE (sCons (sName 0) sNil)) (gT 2 (gsC (gN 2) (gsC (gT 2 (gsC (gN 4) (gsC (gN 5) gsN))) gsN))) (sDrop (sFn s_need_kind (sCons (sName 2) (sCons (sName 5) (sCons (sName 1) sNil))))))
    (sRet (sName 0))))))
def s_need_house : List D → Mem → ER D := fnS n_need_house 1 b_need_house
theorem sc_need_house : FnScope n_need_house ["house"] (defScope (top 32)) := ⟨rfl, rfl, rfl, by decide +kernel, rfl, by decide +kernel, by decide +kernel⟩
theorem g_need_house (Z : Zf fa fn ex K mg) : Callee P w K mg base 6 "need_house" 1 s_need_house := Z.dfn (ps := ["house"]) (k := 5) 11 30 rfl rfl rfl sc_need_house (fun _ _ _ _ _ _ us hl => match us, hl with | [_], _ => rfl) fun f => by
  intro cdv A outer s H E hr hgd
  have hu := room_hu hr
  have hN : (n_need_house : List Str).Nodup := sc_need_house.nd
  have hp : PassesOwn (model P w) (A.deeper (envOfC "need_house" (defScope (top 32)) s.heap.objs.size f cdv)) (envOfC "need_house" (defScope (top 32)) s.heap.objs.size f cdv) (cxOf (L2.CX P w) P w K mg base n_need_house "need_house" (defScope (top 32)) f cdv A outer s H E).xe := passes_of (X := cxOf (L2.CX P w) P w K mg base n_need_house "need_house" (defScope (top 32)) f cdv A outer s H E) rfl
  have tk : Takes (cxOf (L2.CX P w) P w K mg base n_need_house "need_house" (defScope (top 32)) f cdv A outer s H E) (WZ E) := takes_of rfl rfl rfl rfl
  exact (dts_cons (dt_if (db_w (dw_or (db_not (db_val (de_is tells_tuple (Z.fr 0) (Z.fr 10) (by decide +kernel) (de_name 0)))) (dw_or1 (db_not (db_chain (o_le hu) (o_le hu) de_int (de_callB c_len (Z.fr 5) (by decide +kernel) (da_cons (de_name 0) da_nil)) (de_glob (Z.int 29))))))) (dts_one dt_never) dts_nil)
    (dts_cons (dt_for hp rfl (di_enum (Z.fr 23) (da_cons (de_name 0) da_nil)) (dg_tup rfl (dgs_cons (dg_name hN (i := 2)) (dgs_cons (dg_name hN (i := 3)) dgs_nil))) (dts_one (dt_if (db_w (dw_or (db_not (db_val (de_fn (g_is_pair Z) (hr.mono (by decide)) hgd tk (da_cons (de_name 3) da_nil)))) (dw_or1 (db_w (dw_and (db_cmp o_gt (de_name 2) de_int) (dw_and1 (db_not (db_cmp (o_lt hu) (de_ix hu (de_ix hu (de_name 0) (de_op o_sub (de_name 2) de_int)) de_int) (de_ix hu (de_name 3) de_int))))))))) (dts_one dt_never) dts_nil)))
    (dts_cons (dt_setLc (own := [("name", 4), ("kind", 5)]) (i := 1) rfl hN (sw_true rfl rfl rfl rfl) (di_any (de_name 0)) (blkOk_by (own := [("name", 4), ("kind", 5)]) (by kernel_rfl)) (fun _ _ _ _ _ => (dg_tup rfl (dgs_cons (dg_name hN (i := 4)) (dgs_cons (dg_name hN (i := 5)) dgs_nil)))) (fun _ _ _ _ _ => dbs_nil) (fun _ _ _ _ _ => (de_name 4)))
    (dts_cons (dt_for hp rfl (di_enum (Z.fr 23) (da_cons (de_name 0) da_nil)) (dg_tup rfl (dgs_cons (dg_name hN (i := 2)) (dgs_cons (dg_tup rfl (dgs_cons (dg_name hN (i := 4)) (dgs_cons (dg_name hN (i := 5)) dgs_nil))) dgs_nil))) (dts_one (dt_expr (de_fn (g_need_kind Z) (hr.mono (by decide)) hgd tk (da_cons (de_name 2) (da_cons (de_name 5) (da_cons (de_name 1) da_nil)))))))
    (dts_one (dt_ret (de_name 0)))))))
abbrev n_books_of : List Str := ["house", "name", "book", "below"]
def b_books_of : FS := (sRet (sFz (sDc false (sIt (sName 0)) (gT 2 (gsC (gN 1) (gsC (gT 2 (gsC (gN 2) (gsC (gN 3) gsN))) gsN))) (sName 1) (sName 2) [1, 2, 3])))
def s_books_of : List D → Mem → ER D := fnS n_books_of 1 b_books_of
theorem sc_books_of : FnScope n_books_of ["house"] (defScope (top 33)) := ⟨rfl, rfl, rfl, by decide +kernel, rfl, by decide +kernel, by decide +kernel⟩
theorem g_books_of (Z : Zf fa fn ex K mg) : Callee P w K mg base 1 "books_of" 1 s_books_of := Z.dfn (ps := ["house"]) (k := 0) 12 31 rfl rfl rfl sc_books_of (fun _ _ _ _ _ _ us hl => match us, hl with | [_], _ => rfl) fun f => by
  intro cdv A outer s H E hr hgd
  have hu := room_hu hr
  have hN : (n_books_of : List Str).Nodup := sc_books_of.nd
  have hp : PassesOwn (model P w) (A.deeper (envOfC "books_of" (defScope (top 33)) s.heap.objs.size f cdv)) (envOfC "books_of" (defScope (top 33)) s.heap.objs.size f cdv) (cxOf (L2.CX P w) P w K mg base n_books_of "books_of" (defScope (top 33)) f cdv A outer s H E).xe := passes_of (X := cxOf (L2.CX P w) P w K mg base n_books_of "books_of" (defScope (top 33)) f cdv A outer s H E) rfl
  have tk : Takes (cxOf (L2.CX P w) P w K mg base n_books_of "books_of" (defScope (top 33)) f cdv A outer s H E) (WZ E) := takes_of rfl rfl rfl rfl
  exact (dts_one (dt_ret (de_fz (de_dc (own := [("name", 1), ("book", 2), ("below", 3)]) false hu rfl hN (di_any (de_name 0)) (blkOk_by (own := [("name", 1), ("book", 2), ("below", 3)]) (by kernel_rfl)) (fun _ _ _ _ _ => (dg_tup rfl (dgs_cons (dg_name hN (i := 1)) (dgs_cons (dg_tup rfl (dgs_cons (dg_name hN (i := 2)) (dgs_cons (dg_name hN (i := 3)) dgs_nil))) dgs_nil)))) (fun _ _ _ _ _ => (de_name 1)) (fun _ _ _ _ _ => (de_name 2))))))
abbrev n_belows_of : List Str := ["house", "name", "book", "below"]
def b_belows_of : FS := (sRet (sFz (sDc false (sIt (sName 0)) (gT 2 (gsC (gN 1) (gsC (gT 2 (gsC (gN 2) (gsC (gN 3) gsN))) gsN))) (sName 1) (sName 3) [1, 2, 3])))
def s_belows_of : List D → Mem → ER D := fnS n_belows_of 1 b_belows_of
theorem sc_belows_of : FnScope n_belows_of ["house"] (defScope (top 34)) := ⟨rfl, rfl, rfl, by decide +kernel, rfl, by decide +kernel, by decide +kernel⟩
theorem g_belows_of (Z : Zf fa fn ex K mg) : Callee P w K mg base 1 "belows_of" 1 s_belows_of := Z.dfn (ps := ["house"]) (k := 0) 13 32 rfl rfl rfl sc_belows_of (fun _ _ _ _ _ _ us hl => match us, hl with | [_], _ => rfl) fun f => by
  intro cdv A outer s H E hr hgd
  have hu := room_hu hr
  have hN : (n_belows_of : List Str).Nodup := sc_belows_of.nd
  have hp : PassesOwn (model P w) (A.deeper (envOfC "belows_of" (defScope (top 34)) s.heap.objs.size f cdv)) (envOfC "belows_of" (defScope (top 34)) s.heap.objs.size f cdv) (cxOf (L2.CX P w) P w K mg base n_belows_of "belows_of" (defScope (top 34)) f cdv A outer s H E).xe := passes_of (X := cxOf (L2.CX P w) P w K mg base n_belows_of "belows_of" (defScope (top 34)) f cdv A outer s H E) rfl
  have tk : Takes (cxOf (L2.CX P w) P w K mg base n_belows_of "belows_of" (defScope (top 34)) f cdv A outer s H E) (WZ E) := takes_of rfl rfl rfl rfl
  exact (dts_one (dt_ret (de_fz (de_dc (own := [("name", 1), ("book", 2), ("below", 3)]) false hu rfl hN (di_any (de_name 0)) (blkOk_by (own := [("name", 1), ("book", 2), ("below", 3)]) (by kernel_rfl)) (fun _ _ _ _ _ => (dg_tup rfl (dgs_cons (dg_name hN (i := 1)) (dgs_cons (dg_tup rfl (dgs_cons (dg_name hN (i := 2)) (dgs_cons (dg_name hN (i := 3)) dgs_nil))) dgs_nil)))) (fun _ _ _ _ _ => (de_name 1)) (fun _ _ _ _ _ => (de_name 3))))))
abbrev n_can_lead : List Str := ["item", "edge", "is_over", "begin", "asks", "deed", "end", "stand", "holds", "rung", "level"]
def b_can_lead : FS := (sSeq (sAsgG (sName 1) (gT 4 (gsC (gN 3) (gsC (gN 4) (gsC (gN 5) (gsC (gN 6) gsN))))))
    (sSeq (sAsgG (sName 0) (gT 4 (gsC (gN 7) (gsC (gN 8) (gsC (gN 9) (gsC (gN 10) gsN))))))
    (sSeq (sIfS (sOrB (sB (sOp pNe (sName 3) (sName 7))) (sOrB (sAndB (sB (sOp (pIn false) (sC (.str "over")) (sName 4))) (sNotB (sB (sName 2)))) (sAndB (sB (sOp (pIn false) (sC (.str "rung")) (sName 4))) (sNotB (sB (sName 9)))))) (sRet (sC (.bl false))) sNx)
    (sRet (sGet2 (sDisp [((sC (.str "hold")), (sNotV (sName 8))), ((sC (.str "give")), (sName 8)), ((sC (.str "hush")), (sName 9))]) (sName 5) (sC (.bl true)))))))
def s_can_lead : List D → Mem → ER D := fnS n_can_lead 3 b_can_lead
theorem sc_can_lead : FnScope n_can_lead ["item", "edge", "is_over"] (defScope (top 41)) := ⟨rfl, rfl, rfl, by decide +kernel, rfl, by decide +kernel, by decide +kernel⟩
theorem g_can_lead (Z : Zf fa fn ex K mg) : Callee P w K mg base 1 "can_lead" 3 s_can_lead := Z.dfn (ps := ["item", "edge", "is_over"]) (k := 0) 14 38 rfl rfl rfl sc_can_lead (fun _ _ _ _ _ _ us hl => match us, hl with | [_, _, _], _ => rfl) fun f => by
  intro cdv A outer s H E hr hgd
  have hu := room_hu hr
  have hN : (n_can_lead : List Str).Nodup := sc_can_lead.nd
  have hp : PassesOwn (model P w) (A.deeper (envOfC "can_lead" (defScope (top 41)) s.heap.objs.size f cdv)) (envOfC "can_lead" (defScope (top 41)) s.heap.objs.size f cdv) (cxOf (L2.CX P w) P w K mg base n_can_lead "can_lead" (defScope (top 41)) f cdv A outer s H E).xe := passes_of (X := cxOf (L2.CX P w) P w K mg base n_can_lead "can_lead" (defScope (top 41)) f cdv A outer s H E) rfl
  have tk : Takes (cxOf (L2.CX P w) P w K mg base n_can_lead "can_lead" (defScope (top 41)) f cdv A outer s H E) (WZ E) := takes_of rfl rfl rfl rfl
  exact (dts_cons (dt_asg (de_name 1) (dg_tup rfl (dgs_cons (dg_name hN (i := 3)) (dgs_cons (dg_name hN (i := 4)) (dgs_cons (dg_name hN (i := 5)) (dgs_cons (dg_name hN (i := 6)) dgs_nil))))))
    (dts_cons (dt_asg (de_name 0) (dg_tup rfl (dgs_cons (dg_name hN (i := 7)) (dgs_cons (dg_name hN (i := 8)) (dgs_cons (dg_name hN (i := 9)) (dgs_cons (dg_name hN (i := 10)) dgs_nil))))))
    (dts_cons (dt_if (db_w (dw_or (db_cmp (o_ne hu) (de_name 3) (de_name 7)) (dw_or (db_w (dw_and (db_cmp (o_in hu) (de_glob (Z.str 33)) (de_name 4)) (dw_and1 (db_not (db_val (de_name 2)))))) (dw_or1 (db_w (dw_and (db_cmp (o_in hu) (de_glob (Z.str 34)) (de_name 4)) (dw_and1 (db_not (db_val (de_name 9)))))))))) (dts_one (dt_ret de_bl)) dts_nil)
    (dts_one (dt_ret (de_get2 hu (de_disp (dps_cons (de_glob (Z.str 37)) (de_not (de_name 8)) (dps_cons (de_glob (Z.str 36)) (de_name 8) (dps_cons (de_glob (Z.str 35)) (de_name 9) dps_nil)))) (de_name 5) de_bl ⟨rfl, rfl, rfl, rfl⟩))))))
abbrev n_led : List Str := ["book", "item", "edge", "begin", "asks", "deed", "end", "stand", "holds", "rung", "level"]
def b_led : FS := (sSeq (sAsgG (sName 2) (gT 4 (gsC (gN 3) (gsC (gN 4) (gsC (gN 5) (gsC (gN 6) gsN))))))
    (sSeq (sAsgG (sName 1) (gT 4 (gsC (gN 7) (gsC (gN 8) (gsC (gN 9) (gsC (gN 10) gsN))))))
    (sSeq (sIfS (sB (sOp (pIn false) (sName 6) (sOp pIx (sName 0) (sC (.int 1))))) (sAsgN (sC (.int 3)) 10) (sIfS (sB (sOp (pIn false) (sC (.str "calm")) (sName 4))) (sAsgN (sCall gMin2 (sCons (sName 10) (sCons (sC (.int 1)) sNil))) 10) (sIfS (sB (sOp (pIn false) (sC (.str "unheld")) (sName 4))) (sAsgN (sCall gMin2 (sCons (sName 10) (sCons (sC (.int 2)) sNil))) 10) sNx)))
    (sRet (sTup (sCons (sName 6) (sCons (sOrV (sOp pEq (sName 5) (sC (.str "hold"))) (sAndV (sName 8) (sOp pNe (sName 5) (sC (.str "give"))))) (sCons (sAndV (sName 9) (sOp pNe (sName 5) (sC (.str "hush")))) (sCons (sName 10) sNil)))))))))
def s_led : List D → Mem → ER D := fnS n_led 3 b_led
theorem sc_led : FnScope n_led ["book", "item", "edge"] (defScope (top 42)) := ⟨rfl, rfl, rfl, by decide +kernel, rfl, by decide +kernel, by decide +kernel⟩
theorem g_led (Z : Zf fa fn ex K mg) : Callee P w K mg base 1 "led" 3 s_led := Z.dfn (ps := ["book", "item", "edge"]) (k := 0) 15 43 rfl rfl rfl sc_led (fun _ _ _ _ _ _ us hl => match us, hl with | [_, _, _], _ => rfl) fun f => by
  intro cdv A outer s H E hr hgd
  have hu := room_hu hr
  have hN : (n_led : List Str).Nodup := sc_led.nd
  have hp : PassesOwn (model P w) (A.deeper (envOfC "led" (defScope (top 42)) s.heap.objs.size f cdv)) (envOfC "led" (defScope (top 42)) s.heap.objs.size f cdv) (cxOf (L2.CX P w) P w K mg base n_led "led" (defScope (top 42)) f cdv A outer s H E).xe := passes_of (X := cxOf (L2.CX P w) P w K mg base n_led "led" (defScope (top 42)) f cdv A outer s H E) rfl
  have tk : Takes (cxOf (L2.CX P w) P w K mg base n_led "led" (defScope (top 42)) f cdv A outer s H E) (WZ E) := takes_of rfl rfl rfl rfl
  exact (dts_cons (dt_asg (de_name 2) (dg_tup rfl (dgs_cons (dg_name hN (i := 3)) (dgs_cons (dg_name hN (i := 4)) (dgs_cons (dg_name hN (i := 5)) (dgs_cons (dg_name hN (i := 6)) dgs_nil))))))
    (dts_cons (dt_asg (de_name 1) (dg_tup rfl (dgs_cons (dg_name hN (i := 7)) (dgs_cons (dg_name hN (i := 8)) (dgs_cons (dg_name hN (i := 9)) (dgs_cons (dg_name hN (i := 10)) dgs_nil))))))
    (dts_cons (dt_if (db_cmp (o_in hu) (de_name 6) (de_ix hu (de_name 0) de_int)) (dts_one (dt_set (i := 10) hN (de_glob (Z.int 39)))) (dts_one (dt_if (db_cmp (o_in hu) (de_glob (Z.str 18)) (de_name 4)) (dts_one (dt_set (i := 10) hN (de_callB (c_min2 rfl) (Z.fr 41) (by decide +kernel) (da_cons (de_name 10) (da_cons (de_glob (Z.int 40)) da_nil))))) (dts_one (dt_if (db_cmp (o_in hu) (de_glob (Z.str 16)) (de_name 4)) (dts_one (dt_set (i := 10) hN (de_callB (c_min2 rfl) (Z.fr 41) (by decide +kernel) (da_cons (de_name 10) (da_cons (de_glob (Z.int 42)) da_nil))))) dts_nil)))))
    (dts_one (dt_ret (de_tup (da_cons (de_name 6) (da_cons (de_or (de_cmp (o_eq hu) (de_name 5) (de_glob (Z.str 37))) (de_one (de_and (de_name 8) (de_one (de_cmp (o_ne hu) (de_name 5) (de_glob (Z.str 36))))))) (da_cons (de_and (de_name 9) (de_one (de_cmp (o_ne hu) (de_name 5) (de_glob (Z.str 35))))) (da_cons (de_name 10) da_nil))))))))))
abbrev n_ways_on : List Str := ["book", "item", "is_over", "found", "edge"]
def b_ways_on : FS := (sSeq (sAsgN (sLcM (sIt (sOp pIx (sName 0) (sC (.int 3)))) (gN 4) (sB (sFn s_can_lead (sCons (sName 1) (sCons (sName 4) (sCons (sName 2) sNil))))) (sTup (sCons (sName 4) (sCons (sFn s_led (sCons (sName 0) (sCons (sName 1) (sCons (sName 4) sNil)))) sNil))) [4]) 3)
    (sSeq (sIfS (sB (sOp (pIn true) (sOp pIx (sName 1) (sC (.int 0))) (sOp pIx (sName 0) (sC (.int 2))))) (sDrop (sMt (onLst fAppend) (sName 3) (sCons (sTup (sCons (sC .non) (sCons (sTup (sCons (sOp pIx (sName 1) (sC (.int 0))) (sCons (sOp pIx (sName 1) (sC (.int 1))) (sCons (sC (.bl true)) (sCons (sOp pIx (sName 1) (sC (.int 3))) sNil))))) sNil))) sNil))) sNx)
    (sRet (sFz (sName 3)))))
def s_ways_on : List D → Mem → ER D := fnS n_ways_on 3 b_ways_on
theorem sc_ways_on : FnScope n_ways_on ["book", "item", "is_over"] (defScope (top 43)) := ⟨rfl, rfl, rfl, by decide +kernel, rfl, by decide +kernel, by decide +kernel⟩
theorem g_ways_on (Z : Zf fa fn ex K mg) : Callee P w K mg base 2 "ways_on" 3 s_ways_on := Z.dfn (ps := ["book", "item", "is_over"]) (k := 1) 16 44 rfl rfl rfl sc_ways_on (fun _ _ _ _ _ _ us hl => match us, hl with | [_, _, _], _ => rfl) fun f => by
  intro cdv A outer s H E hr hgd
  have hu := room_hu hr
  have hN : (n_ways_on : List Str).Nodup := sc_ways_on.nd
  have hp : PassesOwn (model P w) (A.deeper (envOfC "ways_on" (defScope (top 43)) s.heap.objs.size f cdv)) (envOfC "ways_on" (defScope (top 43)) s.heap.objs.size f cdv) (cxOf (L2.CX P w) P w K mg base n_ways_on "ways_on" (defScope (top 43)) f cdv A outer s H E).xe := passes_of (X := cxOf (L2.CX P w) P w K mg base n_ways_on "ways_on" (defScope (top 43)) f cdv A outer s H E) rfl
  have tk : Takes (cxOf (L2.CX P w) P w K mg base n_ways_on "ways_on" (defScope (top 43)) f cdv A outer s H E) (WZ E) := takes_of rfl rfl rfl rfl
  exact (dts_cons (dt_setLcM (own := [("edge", 4)]) (i := 3) rfl hN (sw_true rfl rfl rfl rfl) (di_any (de_ix hu (de_name 0) de_int)) (blkOk_by (own := [("edge", 4)]) (by kernel_rfl)) (fun _ _ _ _ _ => (dg_name hN (i := 4))) (fun _ _ _ _ _ => (dbs_one (db_val (de_fn (g_can_lead Z) (hr.mono (by decide)) hgd takes0 (da_cons (de_name 1) (da_cons (de_name 4) (da_cons (de_name 2) da_nil))))))) (fun _ _ _ _ _ => (de_tup (da_cons (de_name 4) (da_cons (de_fn (g_led Z) (hr.mono (by decide)) hgd takes0 (da_cons (de_name 0) (da_cons (de_name 1) (da_cons (de_name 4) da_nil)))) da_nil)))))
    (dts_cons (dt_if (db_cmp (o_notIn hu) (de_ix hu (de_name 1) de_int) (de_ix hu (de_name 0) de_int)) (dts_one (dt_expr (de_m1 PySem.F.slot_list_append PySem.F.type_list_append m_append (de_name 3) (da_cons (de_tup (da_cons de_non (da_cons (de_tup (da_cons (de_ix hu (de_name 1) de_int) (da_cons (de_ix hu (de_name 1) de_int) (da_cons de_bl (da_cons (de_ix hu (de_name 1) de_int) da_nil))))) da_nil))) da_nil)))) dts_nil)
    (dts_one (dt_ret (de_fz (de_name 3))))))
abbrev n_closure : List Str := ["book", "begins", "is_over", "came", "front", "later", "item", "edge", "after"]
def b_closure : FS := (sSeq (sAsgN (sCallD (gDict true) (sCons (sLc (sIt (sName 1)) (gN 6) sYes (sTup (sCons (sName 6) (sCons (sC .non) sNil))) [6]) sNil)) 3)
    (sSeq (sAsgN (sCallL gList (sCons (sName 3) sNil)) 4)
    (sSeq (sWhile (sB (sOp pNe (sName 4) (sLst sNil))) (sSeq (sAsgN (sLstM sNil) 5)
    (sSeq (sFor (sIt (sCallL gList (sCons (sName 4) sNil))) (gN 6) (sFor (sIt (sFn s_ways_on (sCons (sName 0) (sCons (sName 6) (sCons (sName 2) sNil))))) (gT 2 (gsC (gN 7) (gsC (gN 8) gsN))) (sIfS (sB (sOp (pIn true) (sName 8) (sName 3))) (sSeq (sSub (sTup (sCons (sName 6) (sCons (sName 7) sNil))) (sName 3) (sName 8))
    (sDrop (sMt (onLst fAppend) (sName 5) (sCons (sName 8) sNil)))) sNx)))
    (sAsgN (sName 5) 4))))
    (sRet (sFz (sName 3))))))
def s_closure : List D → Mem → ER D := fnS n_closure 3 b_closure
theorem sc_closure : FnScope n_closure ["book", "begins", "is_over"] (defScope (top 44)) := ⟨rfl, rfl, rfl, by decide +kernel, rfl, by decide +kernel, by decide +kernel⟩
theorem g_closure (Z : Zf fa fn ex K mg) : Callee P w K mg base 3 "closure" 3 s_closure := Z.dfn (ps := ["book", "begins", "is_over"]) (k := 2) 17 47 rfl rfl rfl sc_closure (fun _ _ _ _ _ _ us hl => match us, hl with | [_, _, _], _ => rfl) fun f => by
  intro cdv A outer s H E hr hgd
  have hu := room_hu hr
  have hN : (n_closure : List Str).Nodup := sc_closure.nd
  have hp : PassesOwn (model P w) (A.deeper (envOfC "closure" (defScope (top 44)) s.heap.objs.size f cdv)) (envOfC "closure" (defScope (top 44)) s.heap.objs.size f cdv) (cxOf (L2.CX P w) P w K mg base n_closure "closure" (defScope (top 44)) f cdv A outer s H E).xe := passes_of (X := cxOf (L2.CX P w) P w K mg base n_closure "closure" (defScope (top 44)) f cdv A outer s H E) rfl
  have tk : Takes (cxOf (L2.CX P w) P w K mg base n_closure "closure" (defScope (top 44)) f cdv A outer s H E) (WZ E) := takes_of rfl rfl rfl rfl
  exact (dts_cons (dt_set (i := 3) hN (de_callTyD (c_dictT rfl hu) (Z.fr 45) (by decide +kernel) (da_cons (de_lc (own := [("item", 6)]) rfl hN (di_any (de_name 1)) (blkOk_by (own := [("item", 6)]) (by kernel_rfl)) (fun _ _ _ _ _ => (dg_name hN (i := 6))) (fun _ _ _ _ _ => dbs_nil) (fun _ _ _ _ _ => (de_tup (da_cons (de_name 6) (da_cons de_non da_nil))))) da_nil)))
    (dts_cons (dt_set (i := 4) hN (de_callTyL (c_list rfl) (Z.fr 46) (by decide +kernel) (da_cons (de_name 3) da_nil)))
    (dts_cons (dt_while hp (db_cmp (o_ne hu) (de_name 4) (de_lst da_nil)) (dts_cons (dt_set (i := 5) hN (de_lstM da_nil))
    (dts_cons (dt_for hp rfl (di_any (de_callTyL (c_list rfl) (Z.fr 46) (by decide +kernel) (da_cons (de_name 4) da_nil))) (dg_name hN (i := 6)) (dts_one (dt_for hp rfl (di_any (de_fn (g_ways_on Z) (hr.mono (by decide)) hgd tk (da_cons (de_name 0) (da_cons (de_name 6) (da_cons (de_name 2) da_nil))))) (dg_tup rfl (dgs_cons (dg_name hN (i := 7)) (dgs_cons (dg_name hN (i := 8)) dgs_nil))) (dts_one (dt_if (db_cmp (o_notIn hu) (de_name 8) (de_name 3)) (dts_cons (dt_sub hu (de_tup (da_cons (de_name 6) (da_cons (de_name 7) da_nil))) (de_name 3) (de_name 8))
    (dts_one (dt_expr (de_m1 PySem.F.slot_list_append PySem.F.type_list_append m_append (de_name 5) (da_cons (de_name 8) da_nil))))) dts_nil)))))
    (dts_one (dt_set (i := 4) hN (de_name 5))))))
    (dts_one (dt_ret (de_fz (de_name 3)))))))
abbrev n_sets_by : List Str := ["book", "full", "free", "quiet", "item"]
def b_sets_by : FS := (sSeq (sAsgN (sFn s_closure (sCons (sName 0) (sCons (sLst (sCons (sC k_BEGIN) sNil)) (sCons (sC (.bl true)) sNil)))) 1)
    (sSeq (sAsgN (sLc (sIt (sName 1)) (gN 4) (sNotB (sB (sOp pIx (sName 4) (sC (.int 1))))) (sName 4) [4]) 2)
    (sSeq (sAsgN (sLc (sIt (sName 2)) (gN 4) (sB (sOp (pIn true) (sOp pIx (sName 4) (sC (.int 0))) (sOp pIx (sName 0) (sC (.int 1))))) (sName 4) [4]) 3)
    (sRet (sTup (sCons (sFn s_closure (sCons (sName 0) (sCons (sLst (sCons (sC k_BEGIN) sNil)) (sCons (sC (.bl false)) sNil)))) (sCons (sFn s_closure (sCons (sName 0) (sCons (sName 3) (sCons (sC (.bl false)) sNil)))) (sCons (sFn s_closure (sCons (sName 0) (sCons (sName 2) (sCons (sC (.bl false)) sNil)))) (sCons (sName 1) sNil)))))))))
def s_sets_by : List D → Mem → ER D := fnS n_sets_by 1 b_sets_by
theorem sc_sets_by : FnScope n_sets_by ["book"] (defScope (top 45)) := ⟨rfl, rfl, rfl, by decide +kernel, rfl, by decide +kernel, by decide +kernel⟩
theorem g_sets_by (Z : Zf fa fn ex K mg) : Callee P w K mg base 4 "sets_by" 1 s_sets_by := Z.dfn (ps := ["book"]) (k := 3) 18 49 rfl rfl rfl sc_sets_by (fun _ _ _ _ _ _ us hl => match us, hl with | [_], _ => rfl) fun f => by
  intro cdv A outer s H E hr hgd
  have hu := room_hu hr
  have hN : (n_sets_by : List Str).Nodup := sc_sets_by.nd
  have hp : PassesOwn (model P w) (A.deeper (envOfC "sets_by" (defScope (top 45)) s.heap.objs.size f cdv)) (envOfC "sets_by" (defScope (top 45)) s.heap.objs.size f cdv) (cxOf (L2.CX P w) P w K mg base n_sets_by "sets_by" (defScope (top 45)) f cdv A outer s H E).xe := passes_of (X := cxOf (L2.CX P w) P w K mg base n_sets_by "sets_by" (defScope (top 45)) f cdv A outer s H E) rfl
  have tk : Takes (cxOf (L2.CX P w) P w K mg base n_sets_by "sets_by" (defScope (top 45)) f cdv A outer s H E) (WZ E) := takes_of rfl rfl rfl rfl
  exact (dts_cons (dt_set (i := 1) hN (de_fn (g_closure Z) (hr.mono (by decide)) hgd tk (da_cons (de_name 0) (da_cons (de_lst (da_cons (de_glob (Z.flat 48 (tp Z.ex) rfl (ht_BEGIN Z.ex))) da_nil)) (da_cons de_bl da_nil)))))
    (dts_cons (dt_setLc (own := [("item", 4)]) (i := 2) rfl hN (sw_true rfl rfl rfl rfl) (di_any (de_name 1)) (blkOk_by (own := [("item", 4)]) (by kernel_rfl)) (fun _ _ _ _ _ => (dg_name hN (i := 4))) (fun _ _ _ _ _ => (dbs_one (db_not (db_val (de_ix hu (de_name 4) de_int))))) (fun _ _ _ _ _ => (de_name 4)))
    (dts_cons (dt_setLc (own := [("item", 4)]) (i := 3) rfl hN (sw_true rfl rfl rfl rfl) (di_any (de_name 2)) (blkOk_by (own := [("item", 4)]) (by kernel_rfl)) (fun _ _ _ _ _ => (dg_name hN (i := 4))) (fun _ _ _ _ _ => (dbs_one (db_cmp (o_notIn hu) (de_ix hu (de_name 4) de_int) (de_ix hu (de_name 0) de_int)))) (fun _ _ _ _ _ => (de_name 4)))
    (dts_one (dt_ret (de_tup (da_cons (de_fn (g_closure Z) (hr.mono (by decide)) hgd tk (da_cons (de_name 0) (da_cons (de_lst (da_cons (de_glob (Z.flat 48 (tp Z.ex) rfl (ht_BEGIN Z.ex))) da_nil)) (da_cons de_bl da_nil)))) (da_cons (de_fn (g_closure Z) (hr.mono (by decide)) hgd tk (da_cons (de_name 0) (da_cons (de_name 3) (da_cons de_bl da_nil)))) (da_cons (de_fn (g_closure Z) (hr.mono (by decide)) hgd tk (da_cons (de_name 0) (da_cons (de_name 2) (da_cons de_bl da_nil)))) (da_cons (de_name 1) da_nil))))))))))
abbrev n_sets_in : List Str := ["house", "name", "book", "below"]
def b_sets_in : FS := (sRet (sFz (sDc false (sIt (sName 0)) (gT 2 (gsC (gN 1) (gsC (gT 2 (gsC (gN 2) (gsC (gN 3) gsN))) gsN))) (sName 1) (sFn s_sets_by (sCons (sName 2) sNil)) [1, 2, 3])))
def s_sets_in : List D → Mem → ER D := fnS n_sets_in 1 b_sets_in
theorem sc_sets_in : FnScope n_sets_in ["house"] (defScope (top 46)) := ⟨rfl, rfl, rfl, by decide +kernel, rfl, by decide +kernel, by decide +kernel⟩
theorem g_sets_in (Z : Zf fa fn ex K mg) : Callee P w K mg base 5 "sets_in" 1 s_sets_in := Z.dfn (ps := ["house"]) (k := 4) 19 50 rfl rfl rfl sc_sets_in (fun _ _ _ _ _ _ us hl => match us, hl with | [_], _ => rfl) fun f => by
  intro cdv A outer s H E hr hgd
  have hu := room_hu hr
  have hN : (n_sets_in : List Str).Nodup := sc_sets_in.nd
  have hp : PassesOwn (model P w) (A.deeper (envOfC "sets_in" (defScope (top 46)) s.heap.objs.size f cdv)) (envOfC "sets_in" (defScope (top 46)) s.heap.objs.size f cdv) (cxOf (L2.CX P w) P w K mg base n_sets_in "sets_in" (defScope (top 46)) f cdv A outer s H E).xe := passes_of (X := cxOf (L2.CX P w) P w K mg base n_sets_in "sets_in" (defScope (top 46)) f cdv A outer s H E) rfl
  have tk : Takes (cxOf (L2.CX P w) P w K mg base n_sets_in "sets_in" (defScope (top 46)) f cdv A outer s H E) (WZ E) := takes_of rfl rfl rfl rfl
  exact (dts_one (dt_ret (de_fz (de_dc (own := [("name", 1), ("book", 2), ("below", 3)]) false hu rfl hN (di_any (de_name 0)) (blkOk_by (own := [("name", 1), ("book", 2), ("below", 3)]) (by kernel_rfl)) (fun _ _ _ _ _ => (dg_tup rfl (dgs_cons (dg_name hN (i := 1)) (dgs_cons (dg_tup rfl (dgs_cons (dg_name hN (i := 2)) (dgs_cons (dg_name hN (i := 3)) dgs_nil))) dgs_nil)))) (fun _ _ _ _ _ => (de_name 1)) (fun _ _ _ _ _ => (de_fn (g_sets_by Z) (hr.mono (by decide)) hgd takes0 (da_cons (de_name 2) da_nil)))))))
abbrev n_table_of : List Str := ["house", "name", "sets", "some"]
def b_table_of : FS := (sRet (sCall gTuple (sCons (sLc (sItI (sFn s_sets_in (sCons (sName 0) sNil))) (gT 2 (gsC (gN 1) (gsC (gN 2) gsN))) sYes (sTup (sCons (sName 1) (sCons (sCall gTuple (sCons (sLc (sIt (sName 2)) (gN 3) sYes (sCall gTuple (sCons (sCallL gSorted (sCons (sName 3) sNil)) sNil)) [3]) sNil)) sNil))) [1, 2]) sNil)))
def s_table_of : List D → Mem → ER D := fnS n_table_of 1 b_table_of
theorem sc_table_of : FnScope n_table_of ["house"] (defScope (top 47)) := ⟨rfl, rfl, rfl, by decide +kernel, rfl, by decide +kernel, by decide +kernel⟩
theorem g_table_of (Z : Zf fa fn ex K mg) : Callee P w K mg base 6 "table_of" 1 s_table_of := Z.dfn (ps := ["house"]) (k := 5) 20 52 rfl rfl rfl sc_table_of (fun _ _ _ _ _ _ us hl => match us, hl with | [_], _ => rfl) fun f => by
  intro cdv A outer s H E hr hgd
  have hu := room_hu hr
  have hN : (n_table_of : List Str).Nodup := sc_table_of.nd
  have hp : PassesOwn (model P w) (A.deeper (envOfC "table_of" (defScope (top 47)) s.heap.objs.size f cdv)) (envOfC "table_of" (defScope (top 47)) s.heap.objs.size f cdv) (cxOf (L2.CX P w) P w K mg base n_table_of "table_of" (defScope (top 47)) f cdv A outer s H E).xe := passes_of (X := cxOf (L2.CX P w) P w K mg base n_table_of "table_of" (defScope (top 47)) f cdv A outer s H E) rfl
  have tk : Takes (cxOf (L2.CX P w) P w K mg base n_table_of "table_of" (defScope (top 47)) f cdv A outer s H E) (WZ E) := takes_of rfl rfl rfl rfl
  exact (dts_one (dt_ret (de_callTy c_tuple (Z.fr 10) (by decide +kernel) (da_cons (de_lc (own := [("name", 1), ("sets", 2)]) rfl hN (di_items (de_fn (g_sets_in Z) (hr.mono (by decide)) hgd tk (da_cons (de_name 0) da_nil))) (blkOk_by (own := [("name", 1), ("sets", 2)]) (by kernel_rfl)) (fun _ _ _ _ _ => (dg_tup rfl (dgs_cons (dg_name hN (i := 1)) (dgs_cons (dg_name hN (i := 2)) dgs_nil)))) (fun _ _ _ _ _ => dbs_nil) (fun _ _ _ _ _ => (de_tup (da_cons (de_name 1) (da_cons (de_callTy c_tuple (Z.fr 10) (by decide +kernel) (da_cons (de_lc (own := [("some", 3)]) rfl hN (di_any (de_name 2)) (blkOk_by (own := [("some", 3)]) (by kernel_rfl)) (fun _ _ _ _ _ => (dg_name hN (i := 3))) (fun _ _ _ _ _ => dbs_nil) (fun _ _ _ _ _ => (de_callTy c_tuple (Z.fr 10) (by decide +kernel) (da_cons (de_callBL (c_sorted rfl hu) (Z.fr 51) (by decide +kernel) (da_cons (de_name 3) da_nil)) da_nil)))) da_nil)) da_nil))))) da_nil))))
abbrev n_least : List Str := ["house"]
def b_least : FS := (sRet (sFn s_table_of (sCons (sFn s_need_house (sCons (sName 0) sNil)) sNil)))
def s_least : List D → Mem → ER D := fnS n_least 1 b_least
theorem sc_least : FnScope n_least ["house"] (defScope (top 48)) := ⟨rfl, rfl, rfl, by decide +kernel, rfl, by decide +kernel, by decide +kernel⟩
theorem g_least (Z : Zf fa fn ex K mg) : Callee P w K mg base 7 "least" 1 s_least := Z.dfn (ps := ["house"]) (k := 6) 21 53 rfl rfl rfl sc_least (fun _ _ _ _ _ _ us hl => match us, hl with | [_], _ => rfl) fun f => by
  intro cdv A outer s H E hr hgd
  have hu := room_hu hr
  have hN : (n_least : List Str).Nodup := sc_least.nd
  have hp : PassesOwn (model P w) (A.deeper (envOfC "least" (defScope (top 48)) s.heap.objs.size f cdv)) (envOfC "least" (defScope (top 48)) s.heap.objs.size f cdv) (cxOf (L2.CX P w) P w K mg base n_least "least" (defScope (top 48)) f cdv A outer s H E).xe := passes_of (X := cxOf (L2.CX P w) P w K mg base n_least "least" (defScope (top 48)) f cdv A outer s H E) rfl
  have tk : Takes (cxOf (L2.CX P w) P w K mg base n_least "least" (defScope (top 48)) f cdv A outer s H E) (WZ E) := takes_of rfl rfl rfl rfl
  exact (dts_one (dt_ret (de_fn (g_table_of Z) (hr.mono (by decide)) hgd tk (da_cons (de_fn (g_need_house Z) (hr.mono (by decide)) hgd tk (da_cons (de_name 0) da_nil)) da_nil))))
abbrev n_is_shape_of : List Str := ["house", "value", "most", "many", "low", "books", "belows", "own", "one", "other"]
def b_is_shape_of (R : List D → Mem → ER D) : FS := (sSeq (sIfS (sOrB (sNotB (sB (sFn s_is_tuple_of (sCons (sName 1) (sCons (sC (.int 4)) sNil))))) (sOrB (sNotB (sB (sIs isText (sOp pIx (sName 1) (sC (.int 0)))))) (sOrB (sNotB (sB (sIs isBool (sOp pIx (sName 1) (sC (.int 2)))))) (sB (sOp pLt (sName 2) (sC (.int 1))))))) (sRet (sC (.int 0))) sNx)
    (sSeq (sPar2 (sCons (sFn s_books_of (sCons (sName 0) sNil)) (sCons (sFn s_belows_of (sCons (sName 0) sNil)) sNil)) 5 6)
    (sSeq (sIfS (sOrB (sB (sOp (pIn true) (sOp pIx (sName 1) (sC (.int 0))) (sName 5))) (sOrB (sNotB (sB (sFn s_is_whole (sCons (sOp pIx (sName 1) (sC (.int 1))) (sCons (sC (.int 0)) (sCons (sOp pSub (sOp pIx (sOp pIx (sName 5) (sOp pIx (sName 1) (sC (.int 0)))) (sC (.int 0))) (sC (.int 1))) sNil)))))) (sNotB (sB (sIs isTup (sOp pIx (sName 1) (sC (.int 3)))))))) (sRet (sC (.int 0))) sNx)
    (sSeq (sAsgN (sC (.int 1)) 3)
    (sSeq (sFor (sIt (sOp pIx (sName 1) (sC (.int 3)))) (gN 4) (sSeq (sAsgN (sFn R (sCons (sName 0) (sCons (sName 4) (sCons (sOp pSub (sName 2) (sName 3)) sNil)))) 7)
    (sSeq (sIfS (sOrB (sB (sOp pEq (sName 7) (sC (.int 0)))) (sB (sOp (pIn true) (sOp pIx (sName 4) (sC (.int 0))) (sOp pIx (sName 6) (sOp pIx (sName 1) (sC (.int 0))))))) (sRet (sC (.int 0))) sNx)
    (sAsgN (sOp pAdd (sName 3) (sName 7)) 3))))
    (sRet (sIfE (sB (sCall gAll (sCons (sLc (sItZ (sCons (sOp pIx (sName 1) (sC (.int 3))) (sCons (sSl (sOp pIx (sName 1) (sC (.int 3))) (sPart (sC (.int 1))) sNoPart) sNil))) (gT 2 (gsC (gN 8) (gsC (gN 9) gsN))) sYes (sOp pLe (sName 8) (sName 9)) [8, 9]) sNil))) (sName 3) (sC (.int 0)))))))))
def sr_is_shape_of : Nat → List D → Mem → ER D
  | 0 => fnS n_is_shape_of 3 sBad
  | d + 1 => fnS n_is_shape_of 3 (b_is_shape_of (sr_is_shape_of d))
def s_is_shape_of : List D → Mem → ER D := sr_is_shape_of 16
theorem sc_is_shape_of : FnScope n_is_shape_of ["house", "value", "most"] (defScope (top 51)) := ⟨rfl, rfl, rfl, by decide +kernel, rfl, by decide +kernel, by decide +kernel⟩
theorem gr_is_shape_of (Z : Zf fa fn ex K mg) : ∀ d : Nat, Callee P w K mg base (2 + d) "is_shape_of" 3 (sr_is_shape_of d)
  | 0 => Z.dfn (ps := ["house", "value", "most"]) (k := 1) 22 54 rfl rfl rfl sc_is_shape_of (fun _ _ _ _ _ _ us hl => match us, hl with | [_, _, _], _ => rfl) fun _ => fun _ _ _ _ _ _ _ _ => dts_never
  | d + 1 => by
    have ih := gr_is_shape_of Z d
    exact Z.dfn (ps := ["house", "value", "most"]) (k := 2 + d) 22 54 rfl rfl rfl sc_is_shape_of (fun _ _ _ _ _ _ us hl => match us, hl with | [_, _, _], _ => rfl) fun f => by
      intro cdv A outer s H E hr hgd
      have hu := room_hu hr
      have hN : (n_is_shape_of : List Str).Nodup := sc_is_shape_of.nd
      have hp : PassesOwn (model P w) (A.deeper (envOfC "is_shape_of" (defScope (top 51)) s.heap.objs.size f cdv)) (envOfC "is_shape_of" (defScope (top 51)) s.heap.objs.size f cdv) (cxOf (L2.CX P w) P w K mg base n_is_shape_of "is_shape_of" (defScope (top 51)) f cdv A outer s H E).xe := passes_of (X := cxOf (L2.CX P w) P w K mg base n_is_shape_of "is_shape_of" (defScope (top 51)) f cdv A outer s H E) rfl
      have tk : Takes (cxOf (L2.CX P w) P w K mg base n_is_shape_of "is_shape_of" (defScope (top 51)) f cdv A outer s H E) (WZ E) := takes_of rfl rfl rfl rfl
      exact (dts_cons (dt_if (db_w (dw_or (db_not (db_val (de_fn (g_is_tuple_of Z) (hr.mono (by omega)) hgd tk (da_cons (de_name 1) (da_cons de_int da_nil))))) (dw_or (db_not (db_val (de_is tells_str (Z.fr 0) (Z.fr 4) (by decide +kernel) (de_ix hu (de_name 1) de_int)))) (dw_or (db_not (db_val (de_is tells_bool (Z.fr 0) (Z.fr 2) (by decide +kernel) (de_ix hu (de_name 1) de_int)))) (dw_or1 (db_cmp (o_lt hu) (de_name 2) de_int)))))) (dts_one (dt_ret de_int)) dts_nil)
        (dts_cons (dt_par2 (i := 5) (j := 6) rfl hN (da_cons (de_fn (g_books_of Z) (hr.mono (by omega)) hgd tk (da_cons (de_name 0) da_nil)) (da_cons (de_fn (g_belows_of Z) (hr.mono (by omega)) hgd tk (da_cons (de_name 0) da_nil)) da_nil)))
        (dts_cons (dt_if (db_w (dw_or (db_cmp (o_notIn hu) (de_ix hu (de_name 1) de_int) (de_name 5)) (dw_or (db_not (db_val (de_fn (g_is_whole Z) (hr.mono (by omega)) hgd tk (da_cons (de_ix hu (de_name 1) de_int) (da_cons de_int (da_cons (de_op o_sub (de_ix hu (de_ix hu (de_name 5) (de_ix hu (de_name 1) de_int)) de_int) de_int) da_nil)))))) (dw_or1 (db_not (db_val (de_is tells_tuple (Z.fr 0) (Z.fr 10) (by decide +kernel) (de_ix hu (de_name 1) de_int)))))))) (dts_one (dt_ret de_int)) dts_nil)
        (dts_cons (dt_set (i := 3) hN de_int)
        (dts_cons (dt_for hp rfl (di_any (de_ix hu (de_name 1) de_int)) (dg_name hN (i := 4)) (dts_cons (dt_set (i := 7) hN (de_fn ih (hr.mono (by omega)) hgd tk (da_cons (de_name 0) (da_cons (de_name 4) (da_cons (de_op o_sub (de_name 2) (de_name 3)) da_nil)))))
        (dts_cons (dt_if (db_w (dw_or (db_cmp (o_eq hu) (de_name 7) de_int) (dw_or1 (db_cmp (o_notIn hu) (de_ix hu (de_name 4) de_int) (de_ix hu (de_name 6) (de_ix hu (de_name 1) de_int)))))) (dts_one (dt_ret de_int)) dts_nil)
        (dts_one (dt_set (i := 3) hN (de_op o_add (de_name 3) (de_name 7)))))))
        (dts_one (dt_ret (de_if (db_val (de_callB (c_all rfl) (Z.fr 8) (by decide +kernel) (da_cons (de_lc (own := [("one", 8), ("other", 9)]) rfl hN (di_zip (Z.fr 12) (da_cons (de_ix hu (de_name 1) de_int) (da_cons (de_sl (de_ix hu (de_name 1) de_int) (do_some de_int) do_none) da_nil))) (blkOk_by (own := [("one", 8), ("other", 9)]) (by kernel_rfl)) (fun _ _ _ _ _ => (dg_tup rfl (dgs_cons (dg_name hN (i := 8)) (dgs_cons (dg_name hN (i := 9)) dgs_nil)))) (fun _ _ _ _ _ => dbs_nil) (fun _ _ _ _ _ => (de_cmp (o_le hu) (de_name 8) (de_name 9)))) da_nil))) (de_name 3) de_int))))))))
theorem g_is_shape_of (Z : Zf fa fn ex K mg) : Callee P w K mg base 18 "is_shape_of" 3 s_is_shape_of := gr_is_shape_of Z 16
abbrev n_need_shape : List Str := ["house", "shape"]
def b_need_shape : FS := (sIfS (sB (sOp pEq (sFn s_is_shape_of (sCons (sName 0) (sCons (sName 1) (sCons (sC (.int 12)) sNil)))) (sC (.int 0)))) sBad sNx)
def s_need_shape : List D → Mem → ER D := fnS n_need_shape 2 b_need_shape
theorem sc_need_shape : FnScope n_need_shape ["house", "shape"] (defScope (top 52)) := ⟨rfl, rfl, rfl, by decide +kernel, rfl, by decide +kernel, by decide +kernel⟩
theorem g_need_shape (Z : Zf fa fn ex K mg) : Callee P w K mg base 19 "need_shape" 2 s_need_shape := Z.dfn (ps := ["house", "shape"]) (k := 18) 23 56 rfl rfl rfl sc_need_shape (fun _ _ _ _ _ _ us hl => match us, hl with | [_, _], _ => rfl) fun f => by
  intro cdv A outer s H E hr hgd
  have hu := room_hu hr
  have hN : (n_need_shape : List Str).Nodup := sc_need_shape.nd
  have hp : PassesOwn (model P w) (A.deeper (envOfC "need_shape" (defScope (top 52)) s.heap.objs.size f cdv)) (envOfC "need_shape" (defScope (top 52)) s.heap.objs.size f cdv) (cxOf (L2.CX P w) P w K mg base n_need_shape "need_shape" (defScope (top 52)) f cdv A outer s H E).xe := passes_of (X := cxOf (L2.CX P w) P w K mg base n_need_shape "need_shape" (defScope (top 52)) f cdv A outer s H E) rfl
  have tk : Takes (cxOf (L2.CX P w) P w K mg base n_need_shape "need_shape" (defScope (top 52)) f cdv A outer s H E) (WZ E) := takes_of rfl rfl rfl rfl
  exact (dts_one (dt_if (db_cmp (o_eq hu) (de_fn (g_is_shape_of Z) (hr.mono (by decide)) hgd tk (da_cons (de_name 0) (da_cons (de_name 1) (da_cons (de_glob (Z.int 55)) da_nil)))) de_int) (dts_one dt_never) dts_nil))
abbrev n_is_at : List Str := ["item", "shape"]
def b_is_at : FS := (sRet (sAndV (sOp pEq (sOp pIx (sName 0) (sC (.int 0))) (sOp pIx (sName 1) (sC (.int 1)))) (sOp pEq (sOp pIx (sName 0) (sC (.int 1))) (sOp pIx (sName 1) (sC (.int 2))))))
def s_is_at : List D → Mem → ER D := fnS n_is_at 2 b_is_at
theorem sc_is_at : FnScope n_is_at ["item", "shape"] (defScope (top 54)) := ⟨rfl, rfl, rfl, by decide +kernel, rfl, by decide +kernel, by decide +kernel⟩
theorem g_is_at (Z : Zf fa fn ex K mg) : Callee P w K mg base 1 "is_at" 2 s_is_at := Z.dfn (ps := ["item", "shape"]) (k := 0) 24 57 rfl rfl rfl sc_is_at (fun _ _ _ _ _ _ us hl => match us, hl with | [_, _], _ => rfl) fun f => by
  intro cdv A outer s H E hr hgd
  have hu := room_hu hr
  have hN : (n_is_at : List Str).Nodup := sc_is_at.nd
  have hp : PassesOwn (model P w) (A.deeper (envOfC "is_at" (defScope (top 54)) s.heap.objs.size f cdv)) (envOfC "is_at" (defScope (top 54)) s.heap.objs.size f cdv) (cxOf (L2.CX P w) P w K mg base n_is_at "is_at" (defScope (top 54)) f cdv A outer s H E).xe := passes_of (X := cxOf (L2.CX P w) P w K mg base n_is_at "is_at" (defScope (top 54)) f cdv A outer s H E) rfl
  have tk : Takes (cxOf (L2.CX P w) P w K mg base n_is_at "is_at" (defScope (top 54)) f cdv A outer s H E) (WZ E) := takes_of rfl rfl rfl rfl
  exact (dts_one (dt_ret (de_and (de_cmp (o_eq hu) (de_ix hu (de_name 0) de_int) (de_ix hu (de_name 1) de_int)) (de_one (de_cmp (o_eq hu) (de_ix hu (de_name 0) de_int) (de_ix hu (de_name 1) de_int))))))
abbrev n_levels_of : List Str := ["sets", "shape", "below", "good", "one", "level", "some", "item"]
def b_levels_of (R : List D → Mem → ER D) : FS := (sSeq (sAsgN (sLc (sIt (sOp pIx (sName 1) (sC (.int 3)))) (gN 4) sYes (sFn R (sCons (sName 0) (sCons (sName 4) sNil))) [4]) 2)
    (sSeq (sAsgN (sLc (sIt1 (sCons (sOp pAdd (sC (.int 3)) (sC (.int 1))) sNil)) (gN 5) sYes (sCall gAll (sCons (sLc (sIt (sName 2)) (gN 6) sYes (sOp pIx (sName 6) (sName 5)) [6]) sNil)) [5]) 3)
    (sRet (sLc (sIt (sOp pIx (sName 0) (sOp pIx (sName 1) (sC (.int 0))))) (gN 6) sYes (sCall gAny (sCons (sLc (sIt (sName 6)) (gN 7) sYes (sAndV (sFn s_is_at (sCons (sName 7) (sCons (sName 1) sNil))) (sOp pIx (sName 3) (sOp pIx (sName 7) (sC (.int 3))))) [7]) sNil)) [6]))))
def sr_levels_of : Nat → List D → Mem → ER D
  | 0 => fnS n_levels_of 2 sBad
  | d + 1 => fnS n_levels_of 2 (b_levels_of (sr_levels_of d))
def s_levels_of : List D → Mem → ER D := sr_levels_of 16
theorem sc_levels_of : FnScope n_levels_of ["sets", "shape"] (defScope (top 55)) := ⟨rfl, rfl, rfl, by decide +kernel, rfl, by decide +kernel, by decide +kernel⟩
theorem gr_levels_of (Z : Zf fa fn ex K mg) : ∀ d : Nat, Callee P w K mg base (2 + d) "levels_of" 2 (sr_levels_of d)
  | 0 => Z.dfn (ps := ["sets", "shape"]) (k := 1) 25 58 rfl rfl rfl sc_levels_of (fun _ _ _ _ _ _ us hl => match us, hl with | [_, _], _ => rfl) fun _ => fun _ _ _ _ _ _ _ _ => dts_never
  | d + 1 => by
    have ih := gr_levels_of Z d
    exact Z.dfn (ps := ["sets", "shape"]) (k := 2 + d) 25 58 rfl rfl rfl sc_levels_of (fun _ _ _ _ _ _ us hl => match us, hl with | [_, _], _ => rfl) fun f => by
      intro cdv A outer s H E hr hgd
      have hu := room_hu hr
      have hN : (n_levels_of : List Str).Nodup := sc_levels_of.nd
      have hp : PassesOwn (model P w) (A.deeper (envOfC "levels_of" (defScope (top 55)) s.heap.objs.size f cdv)) (envOfC "levels_of" (defScope (top 55)) s.heap.objs.size f cdv) (cxOf (L2.CX P w) P w K mg base n_levels_of "levels_of" (defScope (top 55)) f cdv A outer s H E).xe := passes_of (X := cxOf (L2.CX P w) P w K mg base n_levels_of "levels_of" (defScope (top 55)) f cdv A outer s H E) rfl
      have tk : Takes (cxOf (L2.CX P w) P w K mg base n_levels_of "levels_of" (defScope (top 55)) f cdv A outer s H E) (WZ E) := takes_of rfl rfl rfl rfl
      exact (dts_cons (dt_set (i := 2) hN (de_lc (own := [("one", 4)]) rfl hN (di_any (de_ix hu (de_name 1) de_int)) (blkOk_by (own := [("one", 4)]) (by kernel_rfl)) (fun _ _ _ _ _ => (dg_name hN (i := 4))) (fun _ _ _ _ _ => dbs_nil) (fun _ _ _ _ _ => (de_fn ih (hr.mono (by omega)) hgd takes0 (da_cons (de_name 0) (da_cons (de_name 4) da_nil))))))
        (dts_cons (dt_set (i := 3) hN (de_lc (own := [("level", 5)]) rfl hN (di_range1 (Z.fr 59) (da_cons (de_op o_add (de_glob (Z.int 39)) de_int) da_nil)) (blkOk_by (own := [("level", 5)]) (by kernel_rfl)) (fun _ _ _ _ _ => (dg_name hN (i := 5))) (fun _ _ _ _ _ => dbs_nil) (fun _ _ _ _ _ => (de_callB (c_all rfl) (Z.fr 8) (by decide +kernel) (da_cons (de_lc (own := [("some", 6)]) rfl hN (di_any (de_name 2)) (blkOk_by (own := [("some", 6)]) (by kernel_rfl)) (fun _ _ _ _ _ => (dg_name hN (i := 6))) (fun _ _ _ _ _ => dbs_nil) (fun _ _ _ _ _ => (de_ix hu (de_name 6) (de_name 5)))) da_nil)))))
        (dts_one (dt_ret (de_lc (own := [("some", 6)]) rfl hN (di_any (de_ix hu (de_name 0) (de_ix hu (de_name 1) de_int))) (blkOk_by (own := [("some", 6)]) (by kernel_rfl)) (fun _ _ _ _ _ => (dg_name hN (i := 6))) (fun _ _ _ _ _ => dbs_nil) (fun _ _ _ _ _ => (de_callB (c_any rfl) (Z.fr 60) (by decide +kernel) (da_cons (de_lc (own := [("item", 7)]) rfl hN (di_any (de_name 6)) (blkOk_by (own := [("item", 7)]) (by kernel_rfl)) (fun _ _ _ _ _ => (dg_name hN (i := 7))) (fun _ _ _ _ _ => dbs_nil) (fun _ _ _ _ _ => (de_and (de_fn (g_is_at Z) (hr.mono (by omega)) hgd takes0 (da_cons (de_name 7) (da_cons (de_name 1) da_nil))) (de_one (de_ix hu (de_name 3) (de_ix hu (de_name 7) de_int)))))) da_nil))))))))
theorem g_levels_of (Z : Zf fa fn ex K mg) : Callee P w K mg base 18 "levels_of" 2 s_levels_of := gr_levels_of Z 16
abbrev n_has : List Str := ["house", "shape"]
def b_has : FS := (sSeq (sDrop (sFn s_need_shape (sCons (sFn s_need_house (sCons (sName 0) sNil)) (sCons (sName 1) sNil))))
    (sRet (sOp pIx (sFn s_levels_of (sCons (sFn s_sets_in (sCons (sName 0) sNil)) (sCons (sName 1) sNil))) (sC (.int 3)))))
def s_has : List D → Mem → ER D := fnS n_has 2 b_has
theorem sc_has : FnScope n_has ["house", "shape"] (defScope (top 56)) := ⟨rfl, rfl, rfl, by decide +kernel, rfl, by decide +kernel, by decide +kernel⟩
theorem g_has (Z : Zf fa fn ex K mg) : Callee P w K mg base 20 "has" 2 s_has := Z.dfn (ps := ["house", "shape"]) (k := 19) 26 61 rfl rfl rfl sc_has (fun _ _ _ _ _ _ us hl => match us, hl with | [_, _], _ => rfl) fun f => by
  intro cdv A outer s H E hr hgd
  have hu := room_hu hr
  have hN : (n_has : List Str).Nodup := sc_has.nd
  have hp : PassesOwn (model P w) (A.deeper (envOfC "has" (defScope (top 56)) s.heap.objs.size f cdv)) (envOfC "has" (defScope (top 56)) s.heap.objs.size f cdv) (cxOf (L2.CX P w) P w K mg base n_has "has" (defScope (top 56)) f cdv A outer s H E).xe := passes_of (X := cxOf (L2.CX P w) P w K mg base n_has "has" (defScope (top 56)) f cdv A outer s H E) rfl
  have tk : Takes (cxOf (L2.CX P w) P w K mg base n_has "has" (defScope (top 56)) f cdv A outer s H E) (WZ E) := takes_of rfl rfl rfl rfl
  exact (dts_cons (dt_expr (de_fn (g_need_shape Z) (hr.mono (by decide)) hgd tk (da_cons (de_fn (g_need_house Z) (hr.mono (by decide)) hgd tk (da_cons (de_name 0) da_nil)) (da_cons (de_name 1) da_nil))))
    (dts_one (dt_ret (de_ix hu (de_fn (g_levels_of Z) (hr.mono (by decide)) hgd tk (da_cons (de_fn (g_sets_in Z) (hr.mono (by decide)) hgd tk (da_cons (de_name 0) da_nil)) (da_cons (de_name 1) da_nil))) (de_glob (Z.int 39))))))
abbrev n__law_begun : List Str := ["_law_script", "_law_total", "_law_k", "_law_cell"]
def b__law_begun : FS := (sSeq (sAsgN (sC (.int 17)) 1)
    (sSeq (sFor (sItE (sCons (sSl (sName 0) sNoPart (sPart (sC (.int 63)))) sNil)) (gT 2 (gsC (gN 2) (gsC (gN 3) gsN))) (sAsgN (sOp pMod (sCall gInt (sCons (sOp pMul (sOp pAdd (sOp pAdd (sOp pAdd (sName 1) (sOp pMod (sCall gInt (sCons (sName 3) sNil)) (sC (.int 1000000007)))) (sOp pMul (sC (.int 31)) (sName 2))) (sC (.int 7))) (sC (.int 48271))) sNil)) (sC (.int 2147483647))) 1))
    (sRet (sDisp [((sC (.str "great")), (sLc (sIt (sName 0)) (gN 3) (sB (sOp pGe (sName 3) (sOp pPow (sC (.int 10)) (sC (.int 18))))) (sName 3) [3])), ((sC (.str "seed")), (sName 1)), ((sC (.str "at")), (sC (.int 0)))]))))
def s__law_begun : List D → Mem → ER D := fnS n__law_begun 1 b__law_begun
theorem sc__law_begun : FnScope n__law_begun ["_law_script"] (defScope (top 58)) := ⟨rfl, rfl, rfl, by decide +kernel, rfl, by decide +kernel, by decide +kernel⟩
theorem g__law_begun (Z : Zf fa fn ex K mg) : Callee P w K mg base 1 "_law_begun" 1 s__law_begun := Z.dfn (ps := ["_law_script"]) (k := 0) 27 62 rfl rfl rfl sc__law_begun (fun _ _ _ _ _ _ us hl => match us, hl with | [_], _ => rfl) fun f => by
  intro cdv A outer s H E hr hgd
  have hu := room_hu hr
  have hN : (n__law_begun : List Str).Nodup := sc__law_begun.nd
  have hp : PassesOwn (model P w) (A.deeper (envOfC "_law_begun" (defScope (top 58)) s.heap.objs.size f cdv)) (envOfC "_law_begun" (defScope (top 58)) s.heap.objs.size f cdv) (cxOf (L2.CX P w) P w K mg base n__law_begun "_law_begun" (defScope (top 58)) f cdv A outer s H E).xe := passes_of (X := cxOf (L2.CX P w) P w K mg base n__law_begun "_law_begun" (defScope (top 58)) f cdv A outer s H E) rfl
  have tk : Takes (cxOf (L2.CX P w) P w K mg base n__law_begun "_law_begun" (defScope (top 58)) f cdv A outer s H E) (WZ E) := takes_of rfl rfl rfl rfl
  exact (dts_cons (dt_set (i := 1) hN de_int)
    (dts_cons (dt_for hp rfl (di_enum (Z.fr 23) (da_cons (de_sl (de_name 0) do_none (do_some de_int)) da_nil)) (dg_tup rfl (dgs_cons (dg_name hN (i := 2)) (dgs_cons (dg_name hN (i := 3)) dgs_nil))) (dts_one (dt_set (i := 1) hN (de_op o_mod (de_callTy c_int (Z.fr 1) (by decide +kernel) (da_cons (de_op o_mul (de_op o_add (de_op o_add (de_op o_add (de_name 1) (de_op o_mod (de_callTy c_int (Z.fr 1) (by decide +kernel) (da_cons (de_name 3) da_nil)) de_int)) (de_op o_mul de_int (de_name 2))) de_int) de_int) da_nil)) de_int))))
    (dts_one (dt_ret (de_disp (dps_cons de_str (de_lc (own := [("_law_cell", 3)]) rfl hN (di_any (de_name 0)) (blkOk_by (own := [("_law_cell", 3)]) (by kernel_rfl)) (fun _ _ _ _ _ => (dg_name hN (i := 3))) (fun _ _ _ _ _ => (dbs_one (db_cmp o_ge (de_name 3) (de_op o_pow de_int de_int)))) (fun _ _ _ _ _ => (de_name 3))) (dps_cons de_str (de_name 1) (dps_cons de_str de_int dps_nil))))))))
abbrev n__law_draw : List Str := ["_law_m", "_law_top", "_law_k", "_law_mixed", "_law_cell"]
def b__law_draw : FS := (sSeq (sWhile (sAndB (sB (sOp pNe (sOp pIx (sName 0) (sC (.str "great"))) (sLst sNil))) (sB (sOp pEq (sOp pIx (sOp pIx (sName 0) (sC (.str "great"))) (sC (.int 0))) (sC (.int 0))))) (sSub (sSl (sOp pIx (sName 0) (sC (.str "great"))) (sPart (sC (.int 1))) sNoPart) (sName 0) (sC (.str "great"))))
    (sSeq (sIfS (sB (sOp pNe (sOp pIx (sName 0) (sC (.str "great"))) (sLst sNil))) (sSeq (sAsgN (sOp pIx (sOp pIx (sName 0) (sC (.str "great"))) (sC (.int 0))) 4)
    (sSeq (sSub (sOp pAdd (sLst (sCons (sOp pDiv (sName 4) (sName 1)) sNil)) (sSl (sOp pIx (sName 0) (sC (.str "great"))) (sPart (sC (.int 1))) sNoPart)) (sName 0) (sC (.str "great")))
    (sRet (sOp pMod (sCall gInt (sCons (sName 4) sNil)) (sName 1))))) sNx)
    (sSeq (sAsgN (sOp pAdd (sOp pIx (sName 0) (sC (.str "at"))) (sC (.int 1))) 2)
    (sSeq (sSub (sName 2) (sName 0) (sC (.str "at")))
    (sSeq (sAsgN (sOp pMod (sCall gInt (sCons (sOp pMul (sOp pAdd (sOp pAdd (sOp pIx (sName 0) (sC (.str "seed"))) (sOp pMul (sC (.int 7919)) (sName 2))) (sOp pMul (sOp pMul (sC (.int 104729)) (sName 2)) (sName 2))) (sC (.int 69621))) sNil)) (sC (.int 2147483629))) 3)
    (sRet (sOp pMod (sCall gInt (sCons (sOp pDiv (sOp pMod (sCall gInt (sCons (sOp pAdd (sOp pMul (sName 3) (sC (.int 48271))) (sOp pMul (sC (.int 31)) (sName 2))) sNil)) (sC (.int 2147483587))) (sC (.int 11))) sNil)) (sName 1))))))))
def s__law_draw : List D → Mem → ER D := fnS n__law_draw 2 b__law_draw
theorem sc__law_draw : FnScope n__law_draw ["_law_m", "_law_top"] (defScope (top 59)) := ⟨rfl, rfl, rfl, by decide +kernel, rfl, by decide +kernel, by decide +kernel⟩
theorem g__law_draw (Z : Zf fa fn ex K mg) : Callee P w K mg base 1 "_law_draw" 2 s__law_draw := Z.dfn (ps := ["_law_m", "_law_top"]) (k := 0) 28 63 rfl rfl rfl sc__law_draw (fun _ _ _ _ _ _ us hl => match us, hl with | [_, _], _ => rfl) fun f => by
  intro cdv A outer s H E hr hgd
  have hu := room_hu hr
  have hN : (n__law_draw : List Str).Nodup := sc__law_draw.nd
  have hp : PassesOwn (model P w) (A.deeper (envOfC "_law_draw" (defScope (top 59)) s.heap.objs.size f cdv)) (envOfC "_law_draw" (defScope (top 59)) s.heap.objs.size f cdv) (cxOf (L2.CX P w) P w K mg base n__law_draw "_law_draw" (defScope (top 59)) f cdv A outer s H E).xe := passes_of (X := cxOf (L2.CX P w) P w K mg base n__law_draw "_law_draw" (defScope (top 59)) f cdv A outer s H E) rfl
  have tk : Takes (cxOf (L2.CX P w) P w K mg base n__law_draw "_law_draw" (defScope (top 59)) f cdv A outer s H E) (WZ E) := takes_of rfl rfl rfl rfl
  exact (dts_cons (dt_while hp (db_w (dw_and (db_cmp (o_ne hu) (de_ix hu (de_name 0) de_str) (de_lst da_nil)) (dw_and1 (db_cmp (o_eq hu) (de_ix hu (de_ix hu (de_name 0) de_str) de_int) de_int)))) (dts_one (dt_sub hu (de_sl (de_ix hu (de_name 0) de_str) (do_some de_int) do_none) (de_name 0) de_str)))
    (dts_cons (dt_if (db_cmp (o_ne hu) (de_ix hu (de_name 0) de_str) (de_lst da_nil)) (dts_cons (dt_set (i := 4) hN (de_ix hu (de_ix hu (de_name 0) de_str) de_int))
    (dts_cons (dt_sub hu (de_op o_add (de_lst (da_cons (de_op o_div (de_name 4) (de_name 1)) da_nil)) (de_sl (de_ix hu (de_name 0) de_str) (do_some de_int) do_none)) (de_name 0) de_str)
    (dts_one (dt_ret (de_op o_mod (de_callTy c_int (Z.fr 1) (by decide +kernel) (da_cons (de_name 4) da_nil)) (de_name 1)))))) dts_nil)
    (dts_cons (dt_set (i := 2) hN (de_op o_add (de_ix hu (de_name 0) de_str) de_int))
    (dts_cons (dt_sub hu (de_name 2) (de_name 0) de_str)
    (dts_cons (dt_set (i := 3) hN (de_op o_mod (de_callTy c_int (Z.fr 1) (by decide +kernel) (da_cons (de_op o_mul (de_op o_add (de_op o_add (de_ix hu (de_name 0) de_str) (de_op o_mul de_int (de_name 2))) (de_op o_mul (de_op o_mul de_int (de_name 2)) (de_name 2))) de_int) da_nil)) de_int))
    (dts_one (dt_ret (de_op o_mod (de_callTy c_int (Z.fr 1) (by decide +kernel) (da_cons (de_op o_div (de_op o_mod (de_callTy c_int (Z.fr 1) (by decide +kernel) (da_cons (de_op o_add (de_op o_mul (de_name 3) de_int) (de_op o_mul de_int (de_name 2))) da_nil)) de_int) de_int) da_nil)) (de_name 1)))))))))
abbrev n__law_some : List Str := ["_law_m", "_law_items"]
def b__law_some : FS := (sRet (sOp pIx (sName 1) (sFn s__law_draw (sCons (sName 0) (sCons (sCall gLen (sCons (sName 1) sNil)) sNil)))))
def s__law_some : List D → Mem → ER D := fnS n__law_some 2 b__law_some
theorem sc__law_some : FnScope n__law_some ["_law_m", "_law_items"] (defScope (top 60)) := ⟨rfl, rfl, rfl, by decide +kernel, rfl, by decide +kernel, by decide +kernel⟩
theorem g__law_some (Z : Zf fa fn ex K mg) : Callee P w K mg base 2 "_law_some" 2 s__law_some := Z.dfn (ps := ["_law_m", "_law_items"]) (k := 1) 29 64 rfl rfl rfl sc__law_some (fun _ _ _ _ _ _ us hl => match us, hl with | [_, _], _ => rfl) fun f => by
  intro cdv A outer s H E hr hgd
  have hu := room_hu hr
  have hN : (n__law_some : List Str).Nodup := sc__law_some.nd
  have hp : PassesOwn (model P w) (A.deeper (envOfC "_law_some" (defScope (top 60)) s.heap.objs.size f cdv)) (envOfC "_law_some" (defScope (top 60)) s.heap.objs.size f cdv) (cxOf (L2.CX P w) P w K mg base n__law_some "_law_some" (defScope (top 60)) f cdv A outer s H E).xe := passes_of (X := cxOf (L2.CX P w) P w K mg base n__law_some "_law_some" (defScope (top 60)) f cdv A outer s H E) rfl
  have tk : Takes (cxOf (L2.CX P w) P w K mg base n__law_some "_law_some" (defScope (top 60)) f cdv A outer s H E) (WZ E) := takes_of rfl rfl rfl rfl
  exact (dts_one (dt_ret (de_ix hu (de_name 1) (de_fn (g__law_draw Z) (hr.mono (by decide)) hgd tk (da_cons (de_name 0) (da_cons (de_callB c_len (Z.fr 5) (by decide +kernel) (da_cons (de_name 1) da_nil)) da_nil))))))
abbrev n__law_order : List Str := ["_law_m", "_law_many", "_law_rest", "_law_found"]
def b__law_order : FS := (sSeq (sPar2 (sCons (sListRM (sR1 (sName 1))) (sCons (sLstM sNil) sNil)) 2 3)
    (sSeq (sWhile (sB (sOp pNe (sName 2) (sLst sNil))) (sDrop (sMt (onLst fAppend) (sName 3) (sCons (sMt (onLst fPop1) (sName 2) (sCons (sFn s__law_draw (sCons (sName 0) (sCons (sCall gLen (sCons (sName 2) sNil)) sNil))) sNil)) sNil))))
    (sRet (sFz (sName 3)))))
def s__law_order : List D → Mem → ER D := fnS n__law_order 2 b__law_order
theorem sc__law_order : FnScope n__law_order ["_law_m", "_law_many"] (defScope (top 61)) := ⟨rfl, rfl, rfl, by decide +kernel, rfl, by decide +kernel, by decide +kernel⟩
theorem g__law_order (Z : Zf fa fn ex K mg) : Callee P w K mg base 2 "_law_order" 2 s__law_order := Z.dfn (ps := ["_law_m", "_law_many"]) (k := 1) 30 65 rfl rfl rfl sc__law_order (fun _ _ _ _ _ _ us hl => match us, hl with | [_, _], _ => rfl) fun f => by
  intro cdv A outer s H E hr hgd
  have hu := room_hu hr
  have hN : (n__law_order : List Str).Nodup := sc__law_order.nd
  have hp : PassesOwn (model P w) (A.deeper (envOfC "_law_order" (defScope (top 61)) s.heap.objs.size f cdv)) (envOfC "_law_order" (defScope (top 61)) s.heap.objs.size f cdv) (cxOf (L2.CX P w) P w K mg base n__law_order "_law_order" (defScope (top 61)) f cdv A outer s H E).xe := passes_of (X := cxOf (L2.CX P w) P w K mg base n__law_order "_law_order" (defScope (top 61)) f cdv A outer s H E) rfl
  have tk : Takes (cxOf (L2.CX P w) P w K mg base n__law_order "_law_order" (defScope (top 61)) f cdv A outer s H E) (WZ E) := takes_of rfl rfl rfl rfl
  exact (dts_cons (dt_par2 (i := 2) (j := 3) rfl hN (da_cons (de_listR1M rfl (Z.fr 46) (Z.fr 59) (de_name 1)) (da_cons (de_lstM da_nil) da_nil)))
    (dts_cons (dt_while hp (db_cmp (o_ne hu) (de_name 2) (de_lst da_nil)) (dts_one (dt_expr (de_m1 PySem.F.slot_list_append PySem.F.type_list_append m_append (de_name 3) (da_cons (de_m1 PySem.F.slot_list_pop PySem.F.type_list_pop m_pop1 (de_name 2) (da_cons (de_fn (g__law_draw Z) (hr.mono (by decide)) hgd tk (da_cons (de_name 0) (da_cons (de_callB c_len (Z.fr 5) (by decide +kernel) (da_cons (de_name 2) da_nil)) da_nil))) da_nil)) da_nil)))))
    (dts_one (dt_ret (de_fz (de_name 3))))))
abbrev n__law_asks : List Str := ["_law_m", "_law_some_here"]
def b__law_asks : FS := (sSeq (sAsgN (sLst (sCons (sTup sNil) (sCons (sTup sNil) (sCons (sTup (sCons (sC (.str "over")) sNil)) (sCons (sTup (sCons (sC (.str "over")) sNil)) (sCons (sTup (sCons (sC (.str "calm")) sNil)) (sCons (sTup (sCons (sC (.str "unheld")) sNil)) (sCons (sTup (sCons (sC (.str "held")) sNil)) (sCons (sTup (sCons (sC (.str "rung")) sNil)) (sCons (sTup (sCons (sC (.str "calm")) (sCons (sC (.str "over")) sNil))) sNil)))))))))) 1)
    (sRet (sFn s__law_some (sCons (sName 0) (sCons (sOp pAdd (sName 1) (sLst (sCons (sTup (sCons (sC (.str "held")) (sCons (sC (.str "over")) sNil))) (sCons (sTup (sCons (sC (.str "over")) (sCons (sC (.str "unheld")) sNil))) (sCons (sTup (sCons (sC (.str "over")) (sCons (sC (.str "rung")) sNil))) (sCons (sTup (sCons (sC (.str "held")) (sCons (sC (.str "rung")) sNil))) sNil)))))) sNil)))))
def s__law_asks : List D → Mem → ER D := fnS n__law_asks 1 b__law_asks
theorem sc__law_asks : FnScope n__law_asks ["_law_m"] (defScope (top 62)) := ⟨rfl, rfl, rfl, by decide +kernel, rfl, by decide +kernel, by decide +kernel⟩
theorem g__law_asks (Z : Zf fa fn ex K mg) : Callee P w K mg base 3 "_law_asks" 1 s__law_asks := Z.dfn (ps := ["_law_m"]) (k := 2) 31 66 rfl rfl rfl sc__law_asks (fun _ _ _ _ _ _ us hl => match us, hl with | [_], _ => rfl) fun f => by
  intro cdv A outer s H E hr hgd
  have hu := room_hu hr
  have hN : (n__law_asks : List Str).Nodup := sc__law_asks.nd
  have hp : PassesOwn (model P w) (A.deeper (envOfC "_law_asks" (defScope (top 62)) s.heap.objs.size f cdv)) (envOfC "_law_asks" (defScope (top 62)) s.heap.objs.size f cdv) (cxOf (L2.CX P w) P w K mg base n__law_asks "_law_asks" (defScope (top 62)) f cdv A outer s H E).xe := passes_of (X := cxOf (L2.CX P w) P w K mg base n__law_asks "_law_asks" (defScope (top 62)) f cdv A outer s H E) rfl
  have tk : Takes (cxOf (L2.CX P w) P w K mg base n__law_asks "_law_asks" (defScope (top 62)) f cdv A outer s H E) (WZ E) := takes_of rfl rfl rfl rfl
  exact (dts_cons (dt_set (i := 1) hN (de_lst (da_cons (de_tup da_nil) (da_cons (de_tup da_nil) (da_cons (de_tup (da_cons de_str da_nil)) (da_cons (de_tup (da_cons de_str da_nil)) (da_cons (de_tup (da_cons de_str da_nil)) (da_cons (de_tup (da_cons de_str da_nil)) (da_cons (de_tup (da_cons de_str da_nil)) (da_cons (de_tup (da_cons de_str da_nil)) (da_cons (de_tup (da_cons de_str (da_cons de_str da_nil))) da_nil)))))))))))
    (dts_one (dt_ret (de_fn (g__law_some Z) (hr.mono (by decide)) hgd tk (da_cons (de_name 0) (da_cons (de_op o_add (de_name 1) (de_lst (da_cons (de_tup (da_cons de_str (da_cons de_str da_nil))) (da_cons (de_tup (da_cons de_str (da_cons de_str da_nil))) (da_cons (de_tup (da_cons de_str (da_cons de_str da_nil))) (da_cons (de_tup (da_cons de_str (da_cons de_str da_nil))) da_nil)))))) da_nil))))))
abbrev n__law_edge : List Str := ["_law_m", "_law_begin", "_law_end"]
def b__law_edge : FS := (sRet (sTup (sCons (sName 1) (sCons (sFn s__law_asks (sCons (sName 0) sNil)) (sCons (sFn s__law_some (sCons (sName 0) (sCons (sLst (sCons (sC (.str "go")) (sCons (sC (.str "go")) (sCons (sC (.str "hold")) (sCons (sC (.str "give")) (sCons (sC (.str "hush")) sNil)))))) sNil))) (sCons (sName 2) sNil))))))
def s__law_edge : List D → Mem → ER D := fnS n__law_edge 3 b__law_edge
theorem sc__law_edge : FnScope n__law_edge ["_law_m", "_law_begin", "_law_end"] (defScope (top 63)) := ⟨rfl, rfl, rfl, by decide +kernel, rfl, by decide +kernel, by decide +kernel⟩
theorem g__law_edge (Z : Zf fa fn ex K mg) : Callee P w K mg base 4 "_law_edge" 3 s__law_edge := Z.dfn (ps := ["_law_m", "_law_begin", "_law_end"]) (k := 3) 32 67 rfl rfl rfl sc__law_edge (fun _ _ _ _ _ _ us hl => match us, hl with | [_, _, _], _ => rfl) fun f => by
  intro cdv A outer s H E hr hgd
  have hu := room_hu hr
  have hN : (n__law_edge : List Str).Nodup := sc__law_edge.nd
  have hp : PassesOwn (model P w) (A.deeper (envOfC "_law_edge" (defScope (top 63)) s.heap.objs.size f cdv)) (envOfC "_law_edge" (defScope (top 63)) s.heap.objs.size f cdv) (cxOf (L2.CX P w) P w K mg base n__law_edge "_law_edge" (defScope (top 63)) f cdv A outer s H E).xe := passes_of (X := cxOf (L2.CX P w) P w K mg base n__law_edge "_law_edge" (defScope (top 63)) f cdv A outer s H E) rfl
  have tk : Takes (cxOf (L2.CX P w) P w K mg base n__law_edge "_law_edge" (defScope (top 63)) f cdv A outer s H E) (WZ E) := takes_of rfl rfl rfl rfl
  exact (dts_one (dt_ret (de_tup (da_cons (de_name 1) (da_cons (de_fn (g__law_asks Z) (hr.mono (by decide)) hgd tk (da_cons (de_name 0) da_nil)) (da_cons (de_fn (g__law_some Z) (hr.mono (by decide)) hgd tk (da_cons (de_name 0) (da_cons (de_lst (da_cons de_str (da_cons de_str (da_cons de_str (da_cons de_str (da_cons de_str da_nil)))))) da_nil))) (da_cons (de_name 2) da_nil)))))))
abbrev n__law_book : List Str := ["_law_m", "_law_stands", "_law_most", "_law_here", "_law_again", "_law_up", "_law_deaf", "_law_many", "_law_edges", "_law_stand"]
def b__law_book : FS := (sSeq (sPar2 (sCons (sOp pAdd (sC (.int 1)) (sFn s__law_draw (sCons (sName 0) (sCons (sName 1) sNil)))) (sCons sDictT sNil)) 7 8)
    (sSeq (sFor (sIt1 (sCons (sOp pSub (sName 7) (sC (.int 1))) sNil)) (gN 3) (sSub (sC (.bl true)) (sName 8) (sFn s__law_edge (sCons (sName 0) (sCons (sName 3) (sCons (sOp pAdd (sName 3) (sC (.int 1))) sNil))))))
    (sSeq (sFor (sIt1 (sCons (sFn s__law_draw (sCons (sName 0) (sCons (sOp pAdd (sName 2) (sC (.int 1))) sNil))) sNil)) (gN 4) (sSub (sC (.bl true)) (sName 8) (sFn s__law_edge (sCons (sName 0) (sCons (sFn s__law_draw (sCons (sName 0) (sCons (sName 7) sNil))) (sCons (sFn s__law_draw (sCons (sName 0) (sCons (sName 7) sNil))) sNil))))))
    (sSeq (sAsgN (sCall gTuple (sCons (sLc (sIt2 (sCons (sC (.int 1)) (sCons (sName 7) sNil))) (gN 9) (sB (sOp pEq (sFn s__law_draw (sCons (sName 0) (sCons (sC (.int 2)) sNil))) (sC (.int 0)))) (sName 9) [9]) sNil)) 5)
    (sSeq (sAsgN (sCall gTuple (sCons (sLc (sIt1 (sCons (sName 7) sNil)) (gN 9) (sB (sOp pEq (sFn s__law_draw (sCons (sName 0) (sCons (sC (.int 4)) sNil))) (sC (.int 0)))) (sName 9) [9]) sNil)) 6)
    (sRet (sTup (sCons (sName 7) (sCons (sName 5) (sCons (sName 6) (sCons (sCall gTuple (sCons (sCallL gSorted (sCons (sCallL gList (sCons (sName 8) sNil)) sNil)) sNil)) sNil)))))))))))
def s__law_book : List D → Mem → ER D := fnS n__law_book 3 b__law_book
theorem sc__law_book : FnScope n__law_book ["_law_m", "_law_stands", "_law_most"] (defScope (top 64)) := ⟨rfl, rfl, rfl, by decide +kernel, rfl, by decide +kernel, by decide +kernel⟩
theorem g__law_book (Z : Zf fa fn ex K mg) : Callee P w K mg base 5 "_law_book" 3 s__law_book := Z.dfn (ps := ["_law_m", "_law_stands", "_law_most"]) (k := 4) 33 68 rfl rfl rfl sc__law_book (fun _ _ _ _ _ _ us hl => match us, hl with | [_, _, _], _ => rfl) fun f => by
  intro cdv A outer s H E hr hgd
  have hu := room_hu hr
  have hN : (n__law_book : List Str).Nodup := sc__law_book.nd
  have hp : PassesOwn (model P w) (A.deeper (envOfC "_law_book" (defScope (top 64)) s.heap.objs.size f cdv)) (envOfC "_law_book" (defScope (top 64)) s.heap.objs.size f cdv) (cxOf (L2.CX P w) P w K mg base n__law_book "_law_book" (defScope (top 64)) f cdv A outer s H E).xe := passes_of (X := cxOf (L2.CX P w) P w K mg base n__law_book "_law_book" (defScope (top 64)) f cdv A outer s H E) rfl
  have tk : Takes (cxOf (L2.CX P w) P w K mg base n__law_book "_law_book" (defScope (top 64)) f cdv A outer s H E) (WZ E) := takes_of rfl rfl rfl rfl
  exact (dts_cons (dt_par2 (i := 7) (j := 8) rfl hN (da_cons (de_op o_add de_int (de_fn (g__law_draw Z) (hr.mono (by decide)) hgd tk (da_cons (de_name 0) (da_cons (de_name 1) da_nil)))) (da_cons de_dictT da_nil)))
    (dts_cons (dt_for hp rfl (di_range1 (Z.fr 59) (da_cons (de_op o_sub (de_name 7) de_int) da_nil)) (dg_name hN (i := 3)) (dts_one (dt_sub hu de_bl (de_name 8) (de_fn (g__law_edge Z) (hr.mono (by decide)) hgd tk (da_cons (de_name 0) (da_cons (de_name 3) (da_cons (de_op o_add (de_name 3) de_int) da_nil)))))))
    (dts_cons (dt_for hp rfl (di_range1 (Z.fr 59) (da_cons (de_fn (g__law_draw Z) (hr.mono (by decide)) hgd tk (da_cons (de_name 0) (da_cons (de_op o_add (de_name 2) de_int) da_nil))) da_nil)) (dg_name hN (i := 4)) (dts_one (dt_sub hu de_bl (de_name 8) (de_fn (g__law_edge Z) (hr.mono (by decide)) hgd tk (da_cons (de_name 0) (da_cons (de_fn (g__law_draw Z) (hr.mono (by decide)) hgd tk (da_cons (de_name 0) (da_cons (de_name 7) da_nil))) (da_cons (de_fn (g__law_draw Z) (hr.mono (by decide)) hgd tk (da_cons (de_name 0) (da_cons (de_name 7) da_nil))) da_nil)))))))
    (dts_cons (dt_set (i := 5) hN (de_callTy c_tuple (Z.fr 10) (by decide +kernel) (da_cons (de_lc (own := [("_law_stand", 9)]) rfl hN (di_range2 (Z.fr 59) (da_cons de_int (da_cons (de_name 7) da_nil))) (blkOk_by (own := [("_law_stand", 9)]) (by kernel_rfl)) (fun _ _ _ _ _ => (dg_name hN (i := 9))) (fun _ _ _ _ _ => (dbs_one (db_cmp (o_eq hu) (de_fn (g__law_draw Z) (hr.mono (by decide)) hgd takes0 (da_cons (de_name 0) (da_cons de_int da_nil))) de_int))) (fun _ _ _ _ _ => (de_name 9))) da_nil)))
    (dts_cons (dt_set (i := 6) hN (de_callTy c_tuple (Z.fr 10) (by decide +kernel) (da_cons (de_lc (own := [("_law_stand", 9)]) rfl hN (di_range1 (Z.fr 59) (da_cons (de_name 7) da_nil)) (blkOk_by (own := [("_law_stand", 9)]) (by kernel_rfl)) (fun _ _ _ _ _ => (dg_name hN (i := 9))) (fun _ _ _ _ _ => (dbs_one (db_cmp (o_eq hu) (de_fn (g__law_draw Z) (hr.mono (by decide)) hgd takes0 (da_cons (de_name 0) (da_cons de_int da_nil))) de_int))) (fun _ _ _ _ _ => (de_name 9))) da_nil)))
    (dts_one (dt_ret (de_tup (da_cons (de_name 7) (da_cons (de_name 5) (da_cons (de_name 6) (da_cons (de_callTy c_tuple (Z.fr 10) (by decide +kernel) (da_cons (de_callBL (c_sorted rfl hu) (Z.fr 51) (by decide +kernel) (da_cons (de_callTyL (c_list rfl) (Z.fr 46) (by decide +kernel) (da_cons (de_name 8) da_nil)) da_nil)) da_nil)) da_nil))))))))))))
abbrev n__law_house : List Str := ["_law_m", "_law_kinds", "_law_stands", "_law_most", "_law_names", "_law_found", "_law_name", "_law_below", "_law_at", "_law_low"]
def b__law_house : FS := (sSeq (sAsgN (sCallL gSorted (sCons (sLc (sIt (sSl (sFn s__law_order (sCons (sName 0) (sCons (sC (.int 4)) sNil))) sNoPart (sPart (sOp pAdd (sC (.int 1)) (sFn s__law_draw (sCons (sName 0) (sCons (sName 1) sNil))))))) (gN 8) sYes (sOp pIx (sLst (sCons (sC (.str "a")) (sCons (sC (.str "bus")) (sCons (sC (.str "go")) (sCons (sC (.str "up")) sNil))))) (sName 8)) [8]) sNil)) 4)
    (sSeq (sAsgN (sLstM sNil) 5)
    (sSeq (sFor (sIt (sName 4)) (gN 6) (sSeq (sAsgN (sCall gTuple (sCons (sLc (sIt (sName 4)) (gN 9) (sB (sOp pGt (sFn s__law_draw (sCons (sName 0) (sCons (sC (.int 4)) sNil))) (sC (.int 0)))) (sName 9) [9]) sNil)) 7)
    (sDrop (sMt (onLst fAppend) (sName 5) (sCons (sTup (sCons (sName 6) (sCons (sTup (sCons (sFn s__law_book (sCons (sName 0) (sCons (sName 2) (sCons (sName 3) sNil)))) (sCons (sName 7) sNil))) sNil))) sNil)))))
    (sRet (sCall gTuple (sCons (sName 5) sNil))))))
def s__law_house : List D → Mem → ER D := fnS n__law_house 4 b__law_house
theorem sc__law_house : FnScope n__law_house ["_law_m", "_law_kinds", "_law_stands", "_law_most"] (defScope (top 65)) := ⟨rfl, rfl, rfl, by decide +kernel, rfl, by decide +kernel, by decide +kernel⟩
theorem g__law_house (Z : Zf fa fn ex K mg) : Callee P w K mg base 6 "_law_house" 4 s__law_house := Z.dfn (ps := ["_law_m", "_law_kinds", "_law_stands", "_law_most"]) (k := 5) 34 69 rfl rfl rfl sc__law_house (fun _ _ _ _ _ _ us hl => match us, hl with | [_, _, _, _], _ => rfl) fun f => by
  intro cdv A outer s H E hr hgd
  have hu := room_hu hr
  have hN : (n__law_house : List Str).Nodup := sc__law_house.nd
  have hp : PassesOwn (model P w) (A.deeper (envOfC "_law_house" (defScope (top 65)) s.heap.objs.size f cdv)) (envOfC "_law_house" (defScope (top 65)) s.heap.objs.size f cdv) (cxOf (L2.CX P w) P w K mg base n__law_house "_law_house" (defScope (top 65)) f cdv A outer s H E).xe := passes_of (X := cxOf (L2.CX P w) P w K mg base n__law_house "_law_house" (defScope (top 65)) f cdv A outer s H E) rfl
  have tk : Takes (cxOf (L2.CX P w) P w K mg base n__law_house "_law_house" (defScope (top 65)) f cdv A outer s H E) (WZ E) := takes_of rfl rfl rfl rfl
  exact (dts_cons (dt_set (i := 4) hN (de_callBL (c_sorted rfl hu) (Z.fr 51) (by decide +kernel) (da_cons (de_lc (own := [("_law_at", 8)]) rfl hN (di_any (de_sl (de_fn (g__law_order Z) (hr.mono (by decide)) hgd tk (da_cons (de_name 0) (da_cons de_int da_nil))) do_none (do_some (de_op o_add de_int (de_fn (g__law_draw Z) (hr.mono (by decide)) hgd tk (da_cons (de_name 0) (da_cons (de_name 1) da_nil))))))) (blkOk_by (own := [("_law_at", 8)]) (by kernel_rfl)) (fun _ _ _ _ _ => (dg_name hN (i := 8))) (fun _ _ _ _ _ => dbs_nil) (fun _ _ _ _ _ => (de_ix hu (de_lst (da_cons de_str (da_cons de_str (da_cons de_str (da_cons de_str da_nil))))) (de_name 8)))) da_nil)))
    (dts_cons (dt_set (i := 5) hN (de_lstM da_nil))
    (dts_cons (dt_for hp rfl (di_any (de_name 4)) (dg_name hN (i := 6)) (dts_cons (dt_set (i := 7) hN (de_callTy c_tuple (Z.fr 10) (by decide +kernel) (da_cons (de_lc (own := [("_law_low", 9)]) rfl hN (di_any (de_name 4)) (blkOk_by (own := [("_law_low", 9)]) (by kernel_rfl)) (fun _ _ _ _ _ => (dg_name hN (i := 9))) (fun _ _ _ _ _ => (dbs_one (db_cmp o_gt (de_fn (g__law_draw Z) (hr.mono (by decide)) hgd takes0 (da_cons (de_name 0) (da_cons de_int da_nil))) de_int))) (fun _ _ _ _ _ => (de_name 9))) da_nil)))
    (dts_one (dt_expr (de_m1 PySem.F.slot_list_append PySem.F.type_list_append m_append (de_name 5) (da_cons (de_tup (da_cons (de_name 6) (da_cons (de_tup (da_cons (de_fn (g__law_book Z) (hr.mono (by decide)) hgd tk (da_cons (de_name 0) (da_cons (de_name 2) (da_cons (de_name 3) da_nil)))) (da_cons (de_name 7) da_nil))) da_nil))) da_nil))))))
    (dts_one (dt_ret (de_callTy c_tuple (Z.fr 10) (by decide +kernel) (da_cons (de_name 5) da_nil)))))))
abbrev n__law_books : List Str := ["_law_house_here", "_law_name", "_law_kind"]
def b__law_books : FS := (sRet (sFz (sCallD (gDict false) (sCons (sLc (sIt (sName 0)) (gT 2 (gsC (gN 1) (gsC (gN 2) gsN))) sYes (sTup (sCons (sName 1) (sCons (sOp pIx (sName 2) (sC (.int 0))) sNil))) [1, 2]) sNil))))
def s__law_books : List D → Mem → ER D := fnS n__law_books 1 b__law_books
theorem sc__law_books : FnScope n__law_books ["_law_house_here"] (defScope (top 66)) := ⟨rfl, rfl, rfl, by decide +kernel, rfl, by decide +kernel, by decide +kernel⟩
theorem g__law_books (Z : Zf fa fn ex K mg) : Callee P w K mg base 1 "_law_books" 1 s__law_books := Z.dfn (ps := ["_law_house_here"]) (k := 0) 35 70 rfl rfl rfl sc__law_books (fun _ _ _ _ _ _ us hl => match us, hl with | [_], _ => rfl) fun f => by
  intro cdv A outer s H E hr hgd
  have hu := room_hu hr
  have hN : (n__law_books : List Str).Nodup := sc__law_books.nd
  have hp : PassesOwn (model P w) (A.deeper (envOfC "_law_books" (defScope (top 66)) s.heap.objs.size f cdv)) (envOfC "_law_books" (defScope (top 66)) s.heap.objs.size f cdv) (cxOf (L2.CX P w) P w K mg base n__law_books "_law_books" (defScope (top 66)) f cdv A outer s H E).xe := passes_of (X := cxOf (L2.CX P w) P w K mg base n__law_books "_law_books" (defScope (top 66)) f cdv A outer s H E) rfl
  have tk : Takes (cxOf (L2.CX P w) P w K mg base n__law_books "_law_books" (defScope (top 66)) f cdv A outer s H E) (WZ E) := takes_of rfl rfl rfl rfl
  exact (dts_one (dt_ret (de_fz (de_callTyD (c_dictK rfl) (Z.fr 45) (by decide +kernel) (da_cons (de_lc (own := [("_law_name", 1), ("_law_kind", 2)]) rfl hN (di_any (de_name 0)) (blkOk_by (own := [("_law_name", 1), ("_law_kind", 2)]) (by kernel_rfl)) (fun _ _ _ _ _ => (dg_tup rfl (dgs_cons (dg_name hN (i := 1)) (dgs_cons (dg_name hN (i := 2)) dgs_nil)))) (fun _ _ _ _ _ => dbs_nil) (fun _ _ _ _ _ => (de_tup (da_cons (de_name 1) (da_cons (de_ix hu (de_name 2) de_int) da_nil))))) da_nil)))))
abbrev n__law_belows : List Str := ["_law_house_here", "_law_name", "_law_kind"]
def b__law_belows : FS := (sRet (sFz (sCallD (gDict false) (sCons (sLc (sIt (sName 0)) (gT 2 (gsC (gN 1) (gsC (gN 2) gsN))) sYes (sTup (sCons (sName 1) (sCons (sOp pIx (sName 2) (sC (.int 1))) sNil))) [1, 2]) sNil))))
def s__law_belows : List D → Mem → ER D := fnS n__law_belows 1 b__law_belows
theorem sc__law_belows : FnScope n__law_belows ["_law_house_here"] (defScope (top 67)) := ⟨rfl, rfl, rfl, by decide +kernel, rfl, by decide +kernel, by decide +kernel⟩
theorem g__law_belows (Z : Zf fa fn ex K mg) : Callee P w K mg base 1 "_law_belows" 1 s__law_belows := Z.dfn (ps := ["_law_house_here"]) (k := 0) 36 71 rfl rfl rfl sc__law_belows (fun _ _ _ _ _ _ us hl => match us, hl with | [_], _ => rfl) fun f => by
  intro cdv A outer s H E hr hgd
  have hu := room_hu hr
  have hN : (n__law_belows : List Str).Nodup := sc__law_belows.nd
  have hp : PassesOwn (model P w) (A.deeper (envOfC "_law_belows" (defScope (top 67)) s.heap.objs.size f cdv)) (envOfC "_law_belows" (defScope (top 67)) s.heap.objs.size f cdv) (cxOf (L2.CX P w) P w K mg base n__law_belows "_law_belows" (defScope (top 67)) f cdv A outer s H E).xe := passes_of (X := cxOf (L2.CX P w) P w K mg base n__law_belows "_law_belows" (defScope (top 67)) f cdv A outer s H E) rfl
  have tk : Takes (cxOf (L2.CX P w) P w K mg base n__law_belows "_law_belows" (defScope (top 67)) f cdv A outer s H E) (WZ E) := takes_of rfl rfl rfl rfl
  exact (dts_one (dt_ret (de_fz (de_callTyD (c_dictK rfl) (Z.fr 45) (by decide +kernel) (da_cons (de_lc (own := [("_law_name", 1), ("_law_kind", 2)]) rfl hN (di_any (de_name 0)) (blkOk_by (own := [("_law_name", 1), ("_law_kind", 2)]) (by kernel_rfl)) (fun _ _ _ _ _ => (dg_tup rfl (dgs_cons (dg_name hN (i := 1)) (dgs_cons (dg_name hN (i := 2)) dgs_nil)))) (fun _ _ _ _ _ => dbs_nil) (fun _ _ _ _ _ => (de_tup (da_cons (de_name 1) (da_cons (de_ix hu (de_name 2) de_int) da_nil))))) da_nil)))))
abbrev n__law_shape : List Str := ["_law_m", "_law_house_here", "_law_name", "_law_deep", "_law_books_here", "_law_belows_here", "_law_lot", "_law_again"]
def b__law_shape (R : List D → Mem → ER D) : FS := (sSeq (sPar3 (sCons (sFn s__law_books (sCons (sName 1) sNil)) (sCons (sFn s__law_belows (sCons (sName 1) sNil)) (sCons (sLstM sNil) sNil))) 4 5 6)
    (sSeq (sIfS (sAndB (sB (sOp pGt (sName 3) (sC (.int 1)))) (sB (sOp pNe (sOp pIx (sName 5) (sName 2)) (sTup sNil)))) (sFor (sIt1 (sCons (sFn s__law_draw (sCons (sName 0) (sCons (sC (.int 3)) sNil))) sNil)) (gN 7) (sDrop (sMt (onLst fAppend) (sName 6) (sCons (sFn R (sCons (sName 0) (sCons (sName 1) (sCons (sFn s__law_some (sCons (sName 0) (sCons (sOp pIx (sName 5) (sName 2)) sNil))) (sCons (sOp pSub (sName 3) (sC (.int 1))) sNil))))) sNil)))) sNx)
    (sRet (sTup (sCons (sName 2) (sCons (sFn s__law_draw (sCons (sName 0) (sCons (sOp pIx (sOp pIx (sName 4) (sName 2)) (sC (.int 0))) sNil))) (sCons (sOp pEq (sFn s__law_draw (sCons (sName 0) (sCons (sC (.int 2)) sNil))) (sC (.int 0))) (sCons (sCall gTuple (sCons (sCallL gSorted (sCons (sName 6) sNil)) sNil)) sNil))))))))
def sr__law_shape : Nat → List D → Mem → ER D
  | 0 => fnS n__law_shape 4 sBad
  | d + 1 => fnS n__law_shape 4 (b__law_shape (sr__law_shape d))
def s__law_shape : List D → Mem → ER D := sr__law_shape 6
theorem sc__law_shape : FnScope n__law_shape ["_law_m", "_law_house_here", "_law_name", "_law_deep"] (defScope (top 68)) := ⟨rfl, rfl, rfl, by decide +kernel, rfl, by decide +kernel, by decide +kernel⟩
theorem gr__law_shape (Z : Zf fa fn ex K mg) : ∀ d : Nat, Callee P w K mg base (3 + d) "_law_shape" 4 (sr__law_shape d)
  | 0 => Z.dfn (ps := ["_law_m", "_law_house_here", "_law_name", "_law_deep"]) (k := 2) 37 72 rfl rfl rfl sc__law_shape (fun _ _ _ _ _ _ us hl => match us, hl with | [_, _, _, _], _ => rfl) fun _ => fun _ _ _ _ _ _ _ _ => dts_never
  | d + 1 => by
    have ih := gr__law_shape Z d
    exact Z.dfn (ps := ["_law_m", "_law_house_here", "_law_name", "_law_deep"]) (k := 3 + d) 37 72 rfl rfl rfl sc__law_shape (fun _ _ _ _ _ _ us hl => match us, hl with | [_, _, _, _], _ => rfl) fun f => by
      intro cdv A outer s H E hr hgd
      have hu := room_hu hr
      have hN : (n__law_shape : List Str).Nodup := sc__law_shape.nd
      have hp : PassesOwn (model P w) (A.deeper (envOfC "_law_shape" (defScope (top 68)) s.heap.objs.size f cdv)) (envOfC "_law_shape" (defScope (top 68)) s.heap.objs.size f cdv) (cxOf (L2.CX P w) P w K mg base n__law_shape "_law_shape" (defScope (top 68)) f cdv A outer s H E).xe := passes_of (X := cxOf (L2.CX P w) P w K mg base n__law_shape "_law_shape" (defScope (top 68)) f cdv A outer s H E) rfl
      have tk : Takes (cxOf (L2.CX P w) P w K mg base n__law_shape "_law_shape" (defScope (top 68)) f cdv A outer s H E) (WZ E) := takes_of rfl rfl rfl rfl
      exact (dts_cons (dt_par3 (i := 4) (j := 5) (l := 6) rfl hN (da_cons (de_fn (g__law_books Z) (hr.mono (by omega)) hgd tk (da_cons (de_name 1) da_nil)) (da_cons (de_fn (g__law_belows Z) (hr.mono (by omega)) hgd tk (da_cons (de_name 1) da_nil)) (da_cons (de_lstM da_nil) da_nil))))
        (dts_cons (dt_if (db_w (dw_and (db_cmp o_gt (de_name 3) de_int) (dw_and1 (db_cmp (o_ne hu) (de_ix hu (de_name 5) (de_name 2)) (de_tup da_nil))))) (dts_one (dt_for hp rfl (di_range1 (Z.fr 59) (da_cons (de_fn (g__law_draw Z) (hr.mono (by omega)) hgd tk (da_cons (de_name 0) (da_cons de_int da_nil))) da_nil)) (dg_name hN (i := 7)) (dts_one (dt_expr (de_m1 PySem.F.slot_list_append PySem.F.type_list_append m_append (de_name 6) (da_cons (de_fn ih (hr.mono (by omega)) hgd tk (da_cons (de_name 0) (da_cons (de_name 1) (da_cons (de_fn (g__law_some Z) (hr.mono (by omega)) hgd tk (da_cons (de_name 0) (da_cons (de_ix hu (de_name 5) (de_name 2)) da_nil))) (da_cons (de_op o_sub (de_name 3) de_int) da_nil))))) da_nil)))))) dts_nil)
        (dts_one (dt_ret (de_tup (da_cons (de_name 2) (da_cons (de_fn (g__law_draw Z) (hr.mono (by omega)) hgd tk (da_cons (de_name 0) (da_cons (de_ix hu (de_ix hu (de_name 4) (de_name 2)) de_int) da_nil))) (da_cons (de_cmp (o_eq hu) (de_fn (g__law_draw Z) (hr.mono (by omega)) hgd tk (da_cons (de_name 0) (da_cons de_int da_nil))) de_int) (da_cons (de_callTy c_tuple (Z.fr 10) (by decide +kernel) (da_cons (de_callBL (c_sorted rfl hu) (Z.fr 51) (by decide +kernel) (da_cons (de_name 6) da_nil)) da_nil)) da_nil)))))))))
theorem g__law_shape (Z : Zf fa fn ex K mg) : Callee P w K mg base 9 "_law_shape" 4 s__law_shape := gr__law_shape Z 6
abbrev n__law_size : List Str := ["_law_shape_here", "_law_low"]
def b__law_size (R : List D → Mem → ER D) : FS := (sRet (sOp pAdd (sC (.int 1)) (sCall gSum (sCons (sLc (sIt (sOp pIx (sName 0) (sC (.int 3)))) (gN 1) sYes (sFn R (sCons (sName 1) sNil)) [1]) sNil))))
def sr__law_size : Nat → List D → Mem → ER D
  | 0 => fnS n__law_size 1 sBad
  | d + 1 => fnS n__law_size 1 (b__law_size (sr__law_size d))
def s__law_size : List D → Mem → ER D := sr__law_size 6
theorem sc__law_size : FnScope n__law_size ["_law_shape_here"] (defScope (top 69)) := ⟨rfl, rfl, rfl, by decide +kernel, rfl, by decide +kernel, by decide +kernel⟩
theorem gr__law_size (Z : Zf fa fn ex K mg) : ∀ d : Nat, Callee P w K mg base (1 + d) "_law_size" 1 (sr__law_size d)
  | 0 => Z.dfn (ps := ["_law_shape_here"]) (k := 0) 38 73 rfl rfl rfl sc__law_size (fun _ _ _ _ _ _ us hl => match us, hl with | [_], _ => rfl) fun _ => fun _ _ _ _ _ _ _ _ => dts_never
  | d + 1 => by
    have ih := gr__law_size Z d
    exact Z.dfn (ps := ["_law_shape_here"]) (k := 1 + d) 38 73 rfl rfl rfl sc__law_size (fun _ _ _ _ _ _ us hl => match us, hl with | [_], _ => rfl) fun f => by
      intro cdv A outer s H E hr hgd
      have hu := room_hu hr
      have hN : (n__law_size : List Str).Nodup := sc__law_size.nd
      have hp : PassesOwn (model P w) (A.deeper (envOfC "_law_size" (defScope (top 69)) s.heap.objs.size f cdv)) (envOfC "_law_size" (defScope (top 69)) s.heap.objs.size f cdv) (cxOf (L2.CX P w) P w K mg base n__law_size "_law_size" (defScope (top 69)) f cdv A outer s H E).xe := passes_of (X := cxOf (L2.CX P w) P w K mg base n__law_size "_law_size" (defScope (top 69)) f cdv A outer s H E) rfl
      have tk : Takes (cxOf (L2.CX P w) P w K mg base n__law_size "_law_size" (defScope (top 69)) f cdv A outer s H E) (WZ E) := takes_of rfl rfl rfl rfl
      exact (dts_one (dt_ret (de_op o_add de_int (de_callB (c_sum rfl) (Z.fr 74) (by decide +kernel) (da_cons (de_lc (own := [("_law_low", 1)]) rfl hN (di_any (de_ix hu (de_name 0) de_int)) (blkOk_by (own := [("_law_low", 1)]) (by kernel_rfl)) (fun _ _ _ _ _ => (dg_name hN (i := 1))) (fun _ _ _ _ _ => dbs_nil) (fun _ _ _ _ _ => (de_fn ih (hr.mono (by omega)) hgd takes0 (da_cons (de_name 1) da_nil)))) da_nil)))))
theorem g__law_size (Z : Zf fa fn ex K mg) : Callee P w K mg base 7 "_law_size" 1 s__law_size := gr__law_size Z 6
abbrev n__law_with : List Str := ["_law_house_here", "_law_k", "_law_edges", "_law_book_here", "_law_name", "_law_kind", "_law_many", "_law_up", "_law_deaf", "_law_gone"]
def b__law_with : FS := (sSeq (sAsgG (sOp pIx (sName 0) (sName 1)) (gT 2 (gsC (gN 4) (gsC (gN 5) gsN))))
    (sSeq (sAsgG (sOp pIx (sName 5) (sC (.int 0))) (gT 4 (gsC (gN 6) (gsC (gN 7) (gsC (gN 8) (gsC (gN 9) gsN))))))
    (sSeq (sAsgN (sTup (sCons (sName 6) (sCons (sName 7) (sCons (sName 8) (sCons (sCall gTuple (sCons (sCallL gSorted (sCons (sName 2) sNil)) sNil)) sNil))))) 3)
    (sRet (sOp pAdd (sOp pAdd (sSl (sName 0) sNoPart (sPart (sName 1))) (sTup (sCons (sTup (sCons (sName 4) (sCons (sTup (sCons (sName 3) (sCons (sOp pIx (sName 5) (sC (.int 1))) sNil))) sNil))) sNil))) (sSl (sName 0) (sPart (sOp pAdd (sName 1) (sC (.int 1)))) sNoPart))))))
def s__law_with : List D → Mem → ER D := fnS n__law_with 3 b__law_with
theorem sc__law_with : FnScope n__law_with ["_law_house_here", "_law_k", "_law_edges"] (defScope (top 70)) := ⟨rfl, rfl, rfl, by decide +kernel, rfl, by decide +kernel, by decide +kernel⟩
theorem g__law_with (Z : Zf fa fn ex K mg) : Callee P w K mg base 1 "_law_with" 3 s__law_with := Z.dfn (ps := ["_law_house_here", "_law_k", "_law_edges"]) (k := 0) 39 75 rfl rfl rfl sc__law_with (fun _ _ _ _ _ _ us hl => match us, hl with | [_, _, _], _ => rfl) fun f => by
  intro cdv A outer s H E hr hgd
  have hu := room_hu hr
  have hN : (n__law_with : List Str).Nodup := sc__law_with.nd
  have hp : PassesOwn (model P w) (A.deeper (envOfC "_law_with" (defScope (top 70)) s.heap.objs.size f cdv)) (envOfC "_law_with" (defScope (top 70)) s.heap.objs.size f cdv) (cxOf (L2.CX P w) P w K mg base n__law_with "_law_with" (defScope (top 70)) f cdv A outer s H E).xe := passes_of (X := cxOf (L2.CX P w) P w K mg base n__law_with "_law_with" (defScope (top 70)) f cdv A outer s H E) rfl
  have tk : Takes (cxOf (L2.CX P w) P w K mg base n__law_with "_law_with" (defScope (top 70)) f cdv A outer s H E) (WZ E) := takes_of rfl rfl rfl rfl
  exact (dts_cons (dt_asg (de_ix hu (de_name 0) (de_name 1)) (dg_tup rfl (dgs_cons (dg_name hN (i := 4)) (dgs_cons (dg_name hN (i := 5)) dgs_nil))))
    (dts_cons (dt_asg (de_ix hu (de_name 5) de_int) (dg_tup rfl (dgs_cons (dg_name hN (i := 6)) (dgs_cons (dg_name hN (i := 7)) (dgs_cons (dg_name hN (i := 8)) (dgs_cons (dg_name hN (i := 9)) dgs_nil))))))
    (dts_cons (dt_set (i := 3) hN (de_tup (da_cons (de_name 6) (da_cons (de_name 7) (da_cons (de_name 8) (da_cons (de_callTy c_tuple (Z.fr 10) (by decide +kernel) (da_cons (de_callBL (c_sorted rfl hu) (Z.fr 51) (by decide +kernel) (da_cons (de_name 2) da_nil)) da_nil)) da_nil))))))
    (dts_one (dt_ret (de_op o_add (de_op o_add (de_sl (de_name 0) do_none (do_some (de_name 1))) (de_tup (da_cons (de_tup (da_cons (de_name 4) (da_cons (de_tup (da_cons (de_name 3) (da_cons (de_ix hu (de_name 5) de_int) da_nil))) da_nil))) da_nil))) (de_sl (de_name 0) (do_some (de_op o_add (de_name 1) de_int)) do_none)))))))
abbrev n__law_is_within : List Str := ["_law_low", "_law_high", "_law_k", "_law_level", "_law_known", "_law_item"]
def b__law_is_within : FS := (sSeq (sFor (sIt1 (sCons (sCall gLen (sCons (sName 0) sNil)) sNil)) (gN 2) (sFor (sIt1 (sCons (sC (.int 4)) sNil)) (gN 3) (sSeq (sAsgN (sFz (sCallD (gDict true) (sCons (sLc (sIt (sOp pIx (sOp pIx (sOp pIx (sName 1) (sName 2)) (sC (.int 1))) (sName 3))) (gN 5) sYes (sTup (sCons (sName 5) (sCons (sC (.bl true)) sNil))) [5]) sNil))) 4)
    (sIfS (sB (sOp pNe (sLc (sIt (sOp pIx (sOp pIx (sOp pIx (sName 0) (sName 2)) (sC (.int 1))) (sName 3))) (gN 5) (sB (sOp (pIn true) (sName 5) (sName 4))) (sName 5) [5]) (sLst sNil))) (sRet (sC (.bl false))) sNx))))
    (sRet (sC (.bl true))))
def s__law_is_within : List D → Mem → ER D := fnS n__law_is_within 2 b__law_is_within
theorem sc__law_is_within : FnScope n__law_is_within ["_law_low", "_law_high"] (defScope (top 71)) := ⟨rfl, rfl, rfl, by decide +kernel, rfl, by decide +kernel, by decide +kernel⟩
theorem g__law_is_within (Z : Zf fa fn ex K mg) : Callee P w K mg base 1 "_law_is_within" 2 s__law_is_within := Z.dfn (ps := ["_law_low", "_law_high"]) (k := 0) 40 76 rfl rfl rfl sc__law_is_within (fun _ _ _ _ _ _ us hl => match us, hl with | [_, _], _ => rfl) fun f => by
  intro cdv A outer s H E hr hgd
  have hu := room_hu hr
  have hN : (n__law_is_within : List Str).Nodup := sc__law_is_within.nd
  have hp : PassesOwn (model P w) (A.deeper (envOfC "_law_is_within" (defScope (top 71)) s.heap.objs.size f cdv)) (envOfC "_law_is_within" (defScope (top 71)) s.heap.objs.size f cdv) (cxOf (L2.CX P w) P w K mg base n__law_is_within "_law_is_within" (defScope (top 71)) f cdv A outer s H E).xe := passes_of (X := cxOf (L2.CX P w) P w K mg base n__law_is_within "_law_is_within" (defScope (top 71)) f cdv A outer s H E) rfl
  have tk : Takes (cxOf (L2.CX P w) P w K mg base n__law_is_within "_law_is_within" (defScope (top 71)) f cdv A outer s H E) (WZ E) := takes_of rfl rfl rfl rfl
  exact (dts_cons (dt_for hp rfl (di_range1 (Z.fr 59) (da_cons (de_callB c_len (Z.fr 5) (by decide +kernel) (da_cons (de_name 0) da_nil)) da_nil)) (dg_name hN (i := 2)) (dts_one (dt_for hp rfl (di_range1 (Z.fr 59) (da_cons de_int da_nil)) (dg_name hN (i := 3)) (dts_cons (dt_set (i := 4) hN (de_fz (de_callTyD (c_dictT rfl hu) (Z.fr 45) (by decide +kernel) (da_cons (de_lc (own := [("_law_item", 5)]) rfl hN (di_any (de_ix hu (de_ix hu (de_ix hu (de_name 1) (de_name 2)) de_int) (de_name 3))) (blkOk_by (own := [("_law_item", 5)]) (by kernel_rfl)) (fun _ _ _ _ _ => (dg_name hN (i := 5))) (fun _ _ _ _ _ => dbs_nil) (fun _ _ _ _ _ => (de_tup (da_cons (de_name 5) (da_cons de_bl da_nil))))) da_nil))))
    (dts_one (dt_if (db_cmp (o_ne hu) (de_lc (own := [("_law_item", 5)]) rfl hN (di_any (de_ix hu (de_ix hu (de_ix hu (de_name 0) (de_name 2)) de_int) (de_name 3))) (blkOk_by (own := [("_law_item", 5)]) (by kernel_rfl)) (fun _ _ _ _ _ => (dg_name hN (i := 5))) (fun _ _ _ _ _ => (dbs_one (db_cmp (o_notIn hu) (de_name 5) (de_name 4)))) (fun _ _ _ _ _ => (de_name 5))) (de_lst da_nil)) (dts_one (dt_ret de_bl)) dts_nil))))))
    (dts_one (dt_ret de_bl)))
abbrev n_law : List Str := ["_law_script", "_law_m", "_law_turn", "_law_house_here", "_law_fresh", "_law_more", "_law_shape_here", "_law_still", "_law_k", "_law_table", "_law_many", "_law_up", "_law_deaf", "_law_edges", "_law_gone", "_law_less", "_law_own", "_law_stand"]
def b_law : FS := (sSeq (sAsgN (sFn s__law_begun (sCons (sName 0) sNil)) 1)
    (sSeq (sFor (sIt1 (sCons (sC (.int 4)) sNil)) (gN 2) (sSeq (sAsgN (sFn s__law_house (sCons (sName 1) (sCons (sC (.int 3)) (sCons (sC (.int 4)) (sCons (sC (.int 5)) sNil))))) 3)
    (sSeq (sPar2 (sCons (sFn s__law_draw (sCons (sName 1) (sCons (sCall gLen (sCons (sName 3) sNil)) sNil))) (sCons (sFn s_least (sCons (sName 3) sNil)) sNil)) 8 9)
    (sSeq (sAsgG (sOp pIx (sOp pIx (sOp pIx (sName 3) (sName 8)) (sC (.int 1))) (sC (.int 0))) (gT 4 (gsC (gN 10) (gsC (gN 11) (gsC (gN 12) (gsC (gN 13) gsN))))))
    (sSeq (sAsgN (sFn s__law_edge (sCons (sName 1) (sCons (sFn s__law_draw (sCons (sName 1) (sCons (sName 10) sNil))) (sCons (sFn s__law_draw (sCons (sName 1) (sCons (sName 10) sNil))) sNil)))) 4)
    (sSeq (sAsgN (sFn s__law_with (sCons (sName 3) (sCons (sName 8) (sCons (sOp pAdd (sCallL gList (sCons (sName 13) sNil)) (sLc (sIt (sLst (sCons (sName 4) sNil))) (gN 16) (sB (sOp (pIn true) (sName 16) (sName 13))) (sName 16) [16])) sNil)))) 5)
    (sSeq (sIfS (sNotB (sB (sFn s__law_is_within (sCons (sName 9) (sCons (sFn s_least (sCons (sName 5) sNil)) sNil))))) (sRet (sC (.bl false))) sNx)
    (sSeq (sIfS (sB (sOp pNe (sName 13) (sTup sNil))) (sSeq (sAsgN (sFn s__law_some (sCons (sName 1) (sCons (sName 13) sNil))) 14)
    (sSeq (sAsgN (sLc (sIt (sName 13)) (gN 16) (sB (sOp pNe (sName 16) (sName 14))) (sName 16) [16]) 15)
    (sIfS (sNotB (sB (sFn s__law_is_within (sCons (sFn s_least (sCons (sFn s__law_with (sCons (sName 3) (sCons (sName 8) (sCons (sName 15) sNil)))) sNil)) (sCons (sName 9) sNil))))) (sRet (sC (.bl false))) sNx))) sNx)
    (sSeq (sAsgN (sFn s__law_shape (sCons (sName 1) (sCons (sName 3) (sCons (sOp pIx (sFn s__law_some (sCons (sName 1) (sCons (sName 3) sNil))) (sC (.int 0))) (sCons (sC (.int 3)) sNil))))) 6)
    (sSeq (sIfS (sAndB (sB (sOp pLt (sFn s__law_size (sCons (sName 6) sNil)) (sC (.int 13)))) (sAndB (sB (sFn s_has (sCons (sName 3) (sCons (sName 6) sNil)))) (sNotB (sB (sFn s_has (sCons (sName 5) (sCons (sName 6) sNil))))))) (sRet (sC (.bl false))) sNx)
    (sSeq (sAsgN (sFz (sCallD gDictU (sCons (sOp pAdd (sLc (sIt (sName 13)) (gN 16) sYes (sTup (sCons (sName 16) (sCons (sC (.bl true)) sNil))) [16]) (sLc (sIt1 (sCons (sName 10) sNil)) (gN 17) sYes (sTup (sCons (sTup (sCons (sName 17) (sCons (sTup sNil) (sCons (sC (.str "go")) (sCons (sName 17) sNil))))) (sCons (sC (.bl true)) sNil))) [17])) sNil))) 7)
    (sIfS (sB (sOp pNe (sFn s_least (sCons (sFn s__law_with (sCons (sName 3) (sCons (sName 8) (sCons (sCallL gList (sCons (sName 7) sNil)) sNil)))) sNil)) (sName 9))) (sRet (sC (.bl false))) sNx))))))))))))
    (sRet (sC (.bl true)))))
def s_law : List D → Mem → ER D := fnS n_law 1 b_law
theorem sc_law : FnScope n_law ["_law_script"] (defScope (top 72)) := ⟨rfl, rfl, rfl, by decide +kernel, rfl, by decide +kernel, by decide +kernel⟩
end
/-- the law's def -/
theorem g_law {P : Program} {w : World} {K : PySem.W.Frag} {mg : Str → Option Value} {base : Heap} {f : Addr} {fd : FuncData} (Z : Zf fa fn ex K mg) (F : FunD K "law" "law" (defArgs (top 72)) (defBody (top 72)) (defScope (top 72)) [] [] f fd) : FnG P w K mg base 21 f fd ["_law_script"] s_law := fng_funD (k := 20) F sc_law fun cdv A outer s H E hr hgd => by
  have hu := room_hu hr
  have hN : (n_law : List Str).Nodup := sc_law.nd
  have hp : PassesOwn (model P w) (A.deeper (envOfC "law" (defScope (top 72)) s.heap.objs.size f cdv)) (envOfC "law" (defScope (top 72)) s.heap.objs.size f cdv) (cxOf (L2.CX P w) P w K mg base n_law "law" (defScope (top 72)) f cdv A outer s H E).xe := passes_of (X := cxOf (L2.CX P w) P w K mg base n_law "law" (defScope (top 72)) f cdv A outer s H E) rfl
  have tk : Takes (cxOf (L2.CX P w) P w K mg base n_law "law" (defScope (top 72)) f cdv A outer s H E) (WZ E) := takes_of rfl rfl rfl rfl
  exact (dts_cons (dt_set (i := 1) hN (de_fn (g__law_begun Z) (hr.mono (by decide)) hgd tk (da_cons (de_name 0) da_nil)))
    (dts_cons (dt_for hp rfl (di_range1 (Z.fr 59) (da_cons de_int da_nil)) (dg_name hN (i := 2)) (dts_cons (dt_set (i := 3) hN (de_fn (g__law_house Z) (hr.mono (by decide)) hgd tk (da_cons (de_name 1) (da_cons de_int (da_cons de_int (da_cons de_int da_nil))))))
    (dts_cons (dt_par2 (i := 8) (j := 9) rfl hN (da_cons (de_fn (g__law_draw Z) (hr.mono (by decide)) hgd tk (da_cons (de_name 1) (da_cons (de_callB c_len (Z.fr 5) (by decide +kernel) (da_cons (de_name 3) da_nil)) da_nil))) (da_cons (de_fn (g_least Z) (hr.mono (by decide)) hgd tk (da_cons (de_name 3) da_nil)) da_nil)))
    (dts_cons (dt_asg (de_ix hu (de_ix hu (de_ix hu (de_name 3) (de_name 8)) de_int) de_int) (dg_tup rfl (dgs_cons (dg_name hN (i := 10)) (dgs_cons (dg_name hN (i := 11)) (dgs_cons (dg_name hN (i := 12)) (dgs_cons (dg_name hN (i := 13)) dgs_nil))))))
    (dts_cons (dt_set (i := 4) hN (de_fn (g__law_edge Z) (hr.mono (by decide)) hgd tk (da_cons (de_name 1) (da_cons (de_fn (g__law_draw Z) (hr.mono (by decide)) hgd tk (da_cons (de_name 1) (da_cons (de_name 10) da_nil))) (da_cons (de_fn (g__law_draw Z) (hr.mono (by decide)) hgd tk (da_cons (de_name 1) (da_cons (de_name 10) da_nil))) da_nil)))))
    (dts_cons (dt_set (i := 5) hN (de_fn (g__law_with Z) (hr.mono (by decide)) hgd tk (da_cons (de_name 3) (da_cons (de_name 8) (da_cons (de_op o_add (de_callTyL (c_list rfl) (Z.fr 46) (by decide +kernel) (da_cons (de_name 13) da_nil)) (de_lc (own := [("_law_own", 16)]) rfl hN (di_any (de_lst (da_cons (de_name 4) da_nil))) (blkOk_by (own := [("_law_own", 16)]) (by kernel_rfl)) (fun _ _ _ _ _ => (dg_name hN (i := 16))) (fun _ _ _ _ _ => (dbs_one (db_cmp (o_notIn hu) (de_name 16) (de_name 13)))) (fun _ _ _ _ _ => (de_name 16)))) da_nil)))))
    (dts_cons (dt_if (db_not (db_val (de_fn (g__law_is_within Z) (hr.mono (by decide)) hgd tk (da_cons (de_name 9) (da_cons (de_fn (g_least Z) (hr.mono (by decide)) hgd tk (da_cons (de_name 5) da_nil)) da_nil))))) (dts_one (dt_ret de_bl)) dts_nil)
    (dts_cons (dt_if (db_cmp (o_ne hu) (de_name 13) (de_tup da_nil)) (dts_cons (dt_set (i := 14) hN (de_fn (g__law_some Z) (hr.mono (by decide)) hgd tk (da_cons (de_name 1) (da_cons (de_name 13) da_nil))))
    (dts_cons (dt_setLc (own := [("_law_own", 16)]) (i := 15) rfl hN (sw_true rfl rfl rfl rfl) (di_any (de_name 13)) (blkOk_by (own := [("_law_own", 16)]) (by kernel_rfl)) (fun _ _ _ _ _ => (dg_name hN (i := 16))) (fun _ _ _ _ _ => (dbs_one (db_cmp (o_ne hu) (de_name 16) (de_name 14)))) (fun _ _ _ _ _ => (de_name 16)))
    (dts_one (dt_if (db_not (db_val (de_fn (g__law_is_within Z) (hr.mono (by decide)) hgd tk (da_cons (de_fn (g_least Z) (hr.mono (by decide)) hgd tk (da_cons (de_fn (g__law_with Z) (hr.mono (by decide)) hgd tk (da_cons (de_name 3) (da_cons (de_name 8) (da_cons (de_name 15) da_nil)))) da_nil)) (da_cons (de_name 9) da_nil))))) (dts_one (dt_ret de_bl)) dts_nil)))) dts_nil)
    (dts_cons (dt_set (i := 6) hN (de_fn (g__law_shape Z) (hr.mono (by decide)) hgd tk (da_cons (de_name 1) (da_cons (de_name 3) (da_cons (de_ix hu (de_fn (g__law_some Z) (hr.mono (by decide)) hgd tk (da_cons (de_name 1) (da_cons (de_name 3) da_nil))) de_int) (da_cons de_int da_nil))))))
    (dts_cons (dt_if (db_w (dw_and (db_cmp (o_lt hu) (de_fn (g__law_size Z) (hr.mono (by decide)) hgd tk (da_cons (de_name 6) da_nil)) de_int) (dw_and (db_val (de_fn (g_has Z) (hr.mono (by decide)) hgd tk (da_cons (de_name 3) (da_cons (de_name 6) da_nil)))) (dw_and1 (db_not (db_val (de_fn (g_has Z) (hr.mono (by decide)) hgd tk (da_cons (de_name 5) (da_cons (de_name 6) da_nil))))))))) (dts_one (dt_ret de_bl)) dts_nil)
    (dts_cons (dt_set (i := 7) hN (de_fz (de_callTyD (c_dictU rfl hu) (Z.fr 45) (by decide +kernel) (da_cons (de_op o_add (de_lc (own := [("_law_own", 16)]) rfl hN (di_any (de_name 13)) (blkOk_by (own := [("_law_own", 16)]) (by kernel_rfl)) (fun _ _ _ _ _ => (dg_name hN (i := 16))) (fun _ _ _ _ _ => dbs_nil) (fun _ _ _ _ _ => (de_tup (da_cons (de_name 16) (da_cons de_bl da_nil))))) (de_lc (own := [("_law_stand", 17)]) rfl hN (di_range1 (Z.fr 59) (da_cons (de_name 10) da_nil)) (blkOk_by (own := [("_law_stand", 17)]) (by kernel_rfl)) (fun _ _ _ _ _ => (dg_name hN (i := 17))) (fun _ _ _ _ _ => dbs_nil) (fun _ _ _ _ _ => (de_tup (da_cons (de_tup (da_cons (de_name 17) (da_cons (de_tup da_nil) (da_cons de_str (da_cons (de_name 17) da_nil))))) (da_cons de_bl da_nil)))))) da_nil))))
    (dts_one (dt_if (db_cmp (o_ne hu) (de_fn (g_least Z) (hr.mono (by decide)) hgd tk (da_cons (de_fn (g__law_with Z) (hr.mono (by decide)) hgd tk (da_cons (de_name 3) (da_cons (de_name 8) (da_cons (de_callTyL (c_list rfl) (Z.fr 46) (by decide +kernel) (da_cons (de_name 7) da_nil)) da_nil)))) da_nil)) (de_name 9)) (dts_one (dt_ret de_bl)) dts_nil)))))))))))))
    (dts_one (dt_ret de_bl))))
end DL

set_option Elab.async false
set_option linter.all false
set_option maxRecDepth 100000
set_option maxHeartbeats 0
namespace DL
open PySem PySem.Spec PyProof.Rows L2
abbrev lawR : PySem.W.OpenLaw := PySem.Challenge.rw_wakebook_k33_whole_more_edges_more_comes
def loose0 : List Str := ["WakeError", "BadHouse", "BadShape", "MOST_KINDS", "MOST_STANDS", "MOST_EDGES", "MOST_LETTERS", "LETTERS", "CALM", "HELD", "OVER", "RUNG"]
def loose1 : List Str := ["UNHELD", "ASKS", "GIVE", "GO", "HOLD", "HUSH", "DEEDS", "is_whole", "is_word", "is_tuple_of", "is_ascending", "is_stands"]
def loose2 : List Str := ["is_asks", "is_edge", "need_edges", "is_below", "need_kind", "is_pair", "need_house", "books_of", "belows_of", "EARLY_LEVEL", "CALM_LEVEL", "UNHELD_LEVEL"]
def loose3 : List Str := ["FULL_LEVEL", "BEGIN", "can_lead", "led", "ways_on", "closure", "sets_by", "sets_in", "table_of", "least", "MOST_DEVICES", "is_shape_of"]
def loose4 : List Str := ["need_shape", "is_at", "levels_of", "has", "_law_begun", "_law_draw", "_law_some", "_law_order", "_law_asks", "_law_edge", "_law_book", "_law_house"]
def loose5 : List Str := ["_law_books", "_law_belows", "_law_shape", "_law_size", "_law_with", "_law_is_within"]
def looseN : List Str := loose0 ++ loose1 ++ loose2 ++ loose3 ++ loose4 ++ loose5
abbrev hk : PySem.W.Hook := hookZ 4 fa fn ex
def ob (s : PySem.W.SharedT) : AlZ := obsZ 4 fa fn ex (HandSHeadRun.getT s)
theorem ob_eq (s : PySem.W.SharedT) : ob s = hk.obs s.abs := obsZ_eq (HandSHeadRun.getT_eq s)
set_option maxRecDepth 1000000 in
theorem runs (w : World) : HandSHeadRun.RunEq (PySem.W.OpenLaw.row lawR) (PySem.W.view (PySem.W.OpenLaw.row lawR).prog [72]) hk ob 4000 looseN w := by
  intro os
  kernel_rfl
end DL

set_option Elab.async false
set_option linter.all false
set_option maxRecDepth 100000
/-! Plain part a: the combinators, as simp sees them. -/
namespace DL
open PySem PySem.Spec PyProof.Rows L2
/-! ### expressions -/
def D.get (d : D) (m : Mem) : ER D := match d with
  | .und => .bad
  | d => .ok d m
@[simp] theorem get_p (x : P) (m : Mem) : (D.p x).get m = .ok (.p x) m := id rfl
@[simp] theorem get_ref (i : Nat) (m : Mem) : (D.ref i).get m = .ok (.ref i) m := id rfl
def getO (d : Option D) (m : Mem) : ER D := match d with
  | some d => d.get m
  | none => .bad
@[simp] theorem getO_some (d : D) (m : Mem) : getO (some d) m = d.get m := id rfl
@[simp] theorem e_name (i : Nat) (δ : DS) (m : Mem) : sName i δ m = getO δ[i]? m := by
  unfold sName getO D.get
  cases δ[i]? with
  | none => rfl
  | some d => cases d <;> rfl
@[simp] theorem e_c (x : P) (δ : DS) (m : Mem) : sC x δ m = .ok (.p x) m := id rfl
@[simp] theorem e_op (g : P → P → Option P) (fa fb : FE) (δ : DS) (m : Mem) : sOp g fa fb δ m = (fa δ m).bind fun d m => (fb δ m).bind fun e m => op2 g d e m := id rfl
@[simp] theorem e_un (g : P → Option P) (fa : FE) (δ : DS) (m : Mem) : sUn g fa δ m = (fa δ m).bind fun d m => op1 g d m := id rfl
@[simp] theorem e_chain (g g' : P → P → Option P) (fa fb fc : FE) (δ : DS) (m : Mem) : sChain g g' fa fb fc δ m = (fa δ m).bind fun d m => (fb δ m).bind fun e m => (op2 g d e m).bind fun z m => (asB z m).bind fun k m => if k = true then (fc δ m).bind fun c m => op2 g' e c m else .ok (.p (.bl false)) m := id rfl
@[simp] theorem e_B (fa : FE) (δ : DS) (m : Mem) : sB fa δ m = (fa δ m).bind asB := id rfl
@[simp] theorem asB_bl (b : Bool) (m : Mem) : asB (.p (.bl b)) m = .ok b m := id rfl
@[simp] theorem e_AndB (ga gb : FB) (δ : DS) (m : Mem) : sAndB ga gb δ m = (ga δ m).bind fun c m => if c = true then gb δ m else .ok false m := id rfl
@[simp] theorem e_OrB (ga gb : FB) (δ : DS) (m : Mem) : sOrB ga gb δ m = (ga δ m).bind fun c m => if c = true then .ok true m else gb δ m := id rfl
@[simp] theorem e_NotB (ga : FB) (δ : DS) (m : Mem) : sNotB ga δ m = (ga δ m).bind fun c m => .ok (!c) m := id rfl
@[simp] theorem e_AndV (fa fb : FE) (δ : DS) (m : Mem) : sAndV fa fb δ m = (fa δ m).bind fun d m => (asB d m).bind fun c m => if c = true then fb δ m else .ok (.p (.bl false)) m := id rfl
@[simp] theorem e_OrV (fa fb : FE) (δ : DS) (m : Mem) : sOrV fa fb δ m = (fa δ m).bind fun d m => (asB d m).bind fun c m => if c = true then .ok (.p (.bl true)) m else fb δ m := id rfl
@[simp] theorem e_NotV (fa : FE) (δ : DS) (m : Mem) : sNotV fa δ m = (fa δ m).bind fun d m => (asB d m).bind fun c m => .ok (.p (.bl (!c))) m := id rfl
@[simp] theorem e_IfE (g : FB) (fa fb : FE) (δ : DS) (m : Mem) : sIfE g fa fb δ m = (g δ m).bind fun c m => if c = true then fa δ m else fb δ m := id rfl
@[simp] theorem e_Nil (δ : DS) (m : Mem) : sNil δ m = .ok [] m := id rfl
@[simp] theorem e_Cons (fa : FE) (fr : FA) (δ : DS) (m : Mem) : sCons fa fr δ m = (fa δ m).bind fun d m => (fr δ m).bind fun ds m => .ok (d :: ds) m := id rfl
@[simp] theorem e_Tup (fr : FA) (δ : DS) (m : Mem) : sTup fr δ m = (fr δ m).bind fun ds m => mkSeq .tup ds m := id rfl
@[simp] theorem e_Lst (fr : FA) (δ : DS) (m : Mem) : sLst fr δ m = (fr δ m).bind fun ds m => mkSeq .lst ds m := id rfl
@[simp] theorem e_LstM (fr : FA) (δ : DS) (m : Mem) : sLstM fr δ m = (fr δ m).bind fun ds m => mkLst ds m := id rfl
@[simp] theorem e_DictK (δ : DS) (m : Mem) : sDictK δ m = .ok (.ref m.length) (m ++ [some (.dK [] [])]) := id rfl
@[simp] theorem e_DictT (δ : DS) (m : Mem) : sDictT δ m = .ok (.ref m.length) (m ++ [some (.dT [] [])]) := id rfl
@[simp] theorem e_Fz (fa : FE) (δ : DS) (m : Mem) : sFz fa δ m = (fa δ m).bind fzD := id rfl
@[simp] theorem fz_p (x : P) (m : Mem) : fzD (.p x) m = .ok (.p x) m := id rfl
def mk1 (f : List P → P) (xs : List P) (m : Mem) : ER D := if xs.length ≤ 16777216 then .ok (.p (f xs)) m else .bad
theorem mkSeq_map (f : List P → P) (xs : List P) (m : Mem) : mkSeq f (xs.map D.p) m = mk1 f xs m := by unfold mkSeq; rw [allP_map]; rfl
def mkO (f : List P → P) (xs : Option (List P)) (m : Mem) : ER D := match xs with
  | some xs => mk1 f xs m
  | none => .bad
@[simp] theorem mkO_some (f : List P → P) (xs : List P) (m : Mem) : mkO f (some xs) m = mk1 f xs m := id rfl
@[simp] theorem mkSeq_eq (f : List P → P) (ds : List D) (m : Mem) : mkSeq f ds m = mkO f (allP ds) m := by
  unfold mkSeq mkO mk1
  cases allP ds <;> rfl
@[simp] theorem mk1_nil (f : List P → P) (m : Mem) : mk1 f [] m = .ok (.p (f [])) m := id rfl
@[simp] theorem mk1_one (f : List P → P) (x : P) (m : Mem) : mk1 f [x] m = .ok (.p (f [x])) m := id rfl
@[simp] theorem mk1_two (f : List P → P) (x y : P) (m : Mem) : mk1 f [x, y] m = .ok (.p (f [x, y])) m := id rfl
@[simp] theorem mk1_three (f : List P → P) (x y z : P) (m : Mem) : mk1 f [x, y, z] m = .ok (.p (f [x, y, z])) m := id rfl
@[simp] theorem mk1_four (f : List P → P) (x y z u : P) (m : Mem) : mk1 f [x, y, z, u] m = .ok (.p (f [x, y, z, u])) m := id rfl
def mkLO (xs : Option (List P)) (m : Mem) : ER D := match xs with
  | some xs => if xs.length ≤ 16777216 then .ok (.ref m.length) (m ++ [some (.lst xs)]) else .bad
  | none => .bad
@[simp] theorem mkLst_eq (ds : List D) (m : Mem) : mkLst ds m = mkLO (allP ds) m := by
  unfold mkLst mkLO
  cases allP ds <;> rfl
@[simp] theorem mkLO_some (xs : List P) (m : Mem) : mkLO (some xs) m = if xs.length ≤ 16777216 then .ok (.ref m.length) (m ++ [some (.lst xs)]) else .bad := id rfl
/-! ### by values -/
def okO (z : Option P) (m : Mem) : ER D := match z with
  | some z => .ok (.p z) m
  | none => .bad
@[simp] theorem okO_some (z : P) (m : Mem) : okO (some z) m = .ok (.p z) m := id rfl
@[simp] theorem op2_eq (g : P → P → Option P) (d e : D) (m : Mem) : op2 g d e m = okO ((view d m).bind fun x => (view e m).bind fun y => g x y) m := by
  unfold op2 okO
  cases ((view d m).bind fun x => (view e m).bind fun y => g x y) <;> rfl
@[simp] theorem op1_eq (g : P → Option P) (d : D) (m : Mem) : op1 g d m = okO ((view d m).bind g) m := by
  unfold op1 okO
  cases ((view d m).bind g) <;> rfl
@[simp] theorem opL_eq (g : List P → Option P) (ds : List D) (m : Mem) : opL g ds m = okO ((views ds m).bind g) m := by
  unfold opL okO
  cases ((views ds m).bind g) <;> rfl
@[simp] theorem views_nil (m : Mem) : views [] m = some [] := id rfl
@[simp] theorem views_cons (d : D) (ds : List D) (m : Mem) : views (d :: ds) m = (view d m).bind fun x => (views ds m).bind fun xs => some (x :: xs) := id rfl
@[simp] theorem seen_lst (xs : List P) : seen (some (some (.lst xs))) = some (.lst xs) := id rfl
@[simp] theorem seen_dK (ks : List Key) (xs : List P) : seen (some (some (.dK ks xs))) = some (.dK ks xs) := id rfl
@[simp] theorem seen_dT (ks xs : List P) : seen (some (some (.dT ks xs))) = some (.dT ks xs) := id rfl
@[simp] theorem e_Call (g : List P → Option P) (fr : FA) (δ : DS) (m : Mem) : sCall g fr δ m = (fr δ m).bind fun ds m => opL g ds m := id rfl
def okL (z : Option (List P)) (m : Mem) : ER D := match z with
  | some z => .ok (.p (.lst z)) m
  | none => .bad
@[simp] theorem okL_some (z : List P) (m : Mem) : okL (some z) m = .ok (.p (.lst z)) m := id rfl
@[simp] theorem e_CallL (g : List P → Option (List P)) (fr : FA) (δ : DS) (m : Mem) : sCallL g fr δ m = (fr δ m).bind fun ds m => okL ((views ds m).bind g) m := by
  show (fr δ m).bind (fun ds m => opNL g ds m) = _
  congr
def okM (z : Option (List P)) (m : Mem) : ER D := match z with
  | some z => .ok (.ref m.length) (m ++ [some (.lst z)])
  | none => .bad
@[simp] theorem okM_some (z : List P) (m : Mem) : okM (some z) m = .ok (.ref m.length) (m ++ [some (.lst z)]) := id rfl
@[simp] theorem e_CallM (g : List P → Option (List P)) (fr : FA) (δ : DS) (m : Mem) : sCallM g fr δ m = (fr δ m).bind fun ds m => okM ((views ds m).bind g) m := by
  show (fr δ m).bind (fun ds m => opNM g ds m) = _
  congr
@[simp] theorem e_Is (f : P → Option Bool) (fa : FE) (δ : DS) (m : Mem) : sIs f fa δ m = (fa δ m).bind fun d m => okO (((view d m).bind f).map .bl) m := by
  show (fa δ m).bind (fun d m => isD f d m) = _
  congr
  funext d m
  unfold isD okO
  cases (view d m).bind f <;> rfl
@[simp] theorem e_Sl (fa : FE) (fl fh : FO) (δ : DS) (m : Mem) : sSl fa fl fh δ m = (fa δ m).bind fun d m => (fl δ m).bind fun lo m => (fh δ m).bind fun hi m => op1 (fun a => pSl a lo hi) d m := id rfl
@[simp] theorem e_NoPart (δ : DS) (m : Mem) : sNoPart δ m = .ok none m := id rfl
def partD (d : D) (m : Mem) : ER (Option Int) := match d with
  | .p (.int i) => .ok (some i) m
  | _ => .bad
@[simp] theorem partD_int (i : Int) (m : Mem) : partD (.p (.int i)) m = .ok (some i) m := id rfl
@[simp] theorem e_Part (fa : FE) (δ : DS) (m : Mem) : sPart fa δ m = (fa δ m).bind partD := by
  show (fa δ m).bind _ = _
  congr
theorem e_Fn0 (S : List D → Mem → ER D) (fr : FA) (δ : DS) (m : Mem) : sFn S fr δ m = (fr δ m).bind fun ds m => S ds m := rfl
@[simp] theorem e_Fn' (S : List D → Mem → ER D) (fr : FA) (δ : DS) (m : Mem) : sFn S fr δ m = (fr δ m).bind S := id rfl
def mtR (z : Option (P × Mem)) : ER D := match z with
  | some (z, m) => .ok (.p z) m
  | none => .bad
@[simp] theorem mtR_some (z : P) (m : Mem) : mtR (some (z, m)) = .ok (.p z) m := id rfl
def isLstV : Option P → Bool
  | some (.lst _) => true
  | _ => false
@[simp] theorem isLstV_lst (xs : List P) : isLstV (some (.lst xs)) = true := id rfl
@[simp] theorem e_Mt (f : D → List D → Mem → Option (P × Mem)) (fo : FE) (fr : FA) (δ : DS) (m : Mem) : sMt f fo fr δ m = (fo δ m).bind fun d m1 => if isLstV (view d m1) = true then (fr δ m1).bind fun ds m2 => mtR (f d ds m2) else .bad := by
  show (fo δ m).bind _ = _
  congr
  funext d m1
  cases view d m1 with
  | none => rfl
  | some x =>
    cases x <;> first
      | rfl
      | (show (fr δ m1).bind _ = (fr δ m1).bind _
         congr
         funext ds m2
         unfold mtR
         cases f d ds m2 <;> rfl)
def rgL (ab : Int × Int) : Option (List P) := if rgOk ab = true then some (upFrom ab.1 (ab.2 - ab.1).toNat) else none
theorem rgL_ok {ab : Int × Int} (h : rgOk ab = true) : rgL ab = some (upFrom ab.1 (ab.2 - ab.1).toNat) := if_pos h
theorem e_listR (fr : DS → Mem → ER (Int × Int)) (δ : DS) (m : Mem) : sListR fr δ m = (fr δ m).bind fun ab m => okL (rgL ab) m := by
  show (fr δ m).bind _ = _
  congr
  funext ab m
  unfold rgL okL
  cases rgOk ab <;> rfl
theorem e_listRM (fr : DS → Mem → ER (Int × Int)) (δ : DS) (m : Mem) : sListRM fr δ m = (fr δ m).bind fun ab m => okM (rgL ab) m := by
  show (fr δ m).bind _ = _
  congr
  funext ab m
  unfold rgL okM
  cases rgOk ab <;> rfl
def r1D (d : D) (m : Mem) : ER (Int × Int) := match d with
  | .p (.int j) => .ok (0, j) m
  | _ => .bad
@[simp] theorem r1D_int (j : Int) (m : Mem) : r1D (.p (.int j)) m = .ok (0, j) m := id rfl
@[simp] theorem e_R1 (fa : FE) (δ : DS) (m : Mem) : sR1 fa δ m = (fa δ m).bind r1D := by
  show (fa δ m).bind _ = _
  congr
/-! ### statements -/
def SR.seq (r : SR) (g : FS) : SR := match r with
  | .nx δ m => g δ m
  | r => r
@[simp] theorem seq_nx (δ : DS) (m : Mem) (g : FS) : (SR.nx δ m).seq g = g δ m := id rfl
@[simp] theorem seq_rt (d : D) (m : Mem) (g : FS) : (SR.rt d m).seq g = .rt d m := id rfl
@[simp] theorem seq_bk (δ : DS) (m : Mem) (g : FS) : (SR.bk δ m).seq g = .bk δ m := id rfl
@[simp] theorem seq_ct (δ : DS) (m : Mem) (g : FS) : (SR.ct δ m).seq g = .ct δ m := id rfl
@[simp] theorem seq_ex (x : P) (δ : DS) (m : Mem) (g : FS) : (SR.ex x δ m).seq g = .ex x δ m := id rfl
@[simp] theorem e_Seq (f g : FS) (δ : DS) (m : Mem) : sSeq f g δ m = (f δ m).seq g := by
  unfold sSeq SR.seq
  cases f δ m <;> rfl
@[simp] theorem e_Nx (δ : DS) (m : Mem) : sNx δ m = .nx δ m := id rfl
@[simp] theorem e_Bad (δ : DS) (m : Mem) : sBad δ m = .bad := id rfl
@[simp] theorem e_Ret (fa : FE) (δ : DS) (m : Mem) : sRet fa δ m = thenS (fa δ m) δ fun d m => .rt d m := id rfl
@[simp] theorem e_Drop (fa : FE) (δ : DS) (m : Mem) : sDrop fa δ m = thenS (fa δ m) δ fun _ m => .nx δ m := id rfl
@[simp] theorem e_IfS (gc : FB) (f g : FS) (δ : DS) (m : Mem) : sIfS gc f g δ m = thenS (gc δ m) δ fun c m => if c = true then f δ m else g δ m := id rfl
def nxO (δ : Option DS) (m : Mem) : SR := match δ with
  | some δ => .nx δ m
  | none => .bad
@[simp] theorem nxO_some (δ : DS) (m : Mem) : nxO (some δ) m = .nx δ m := id rfl
@[simp] theorem e_AsgN (fa : FE) (i : Nat) (δ : DS) (m : Mem) : sAsgN fa i δ m = thenS (fa δ m) δ fun d m => nxO (gN i d δ) m := by
  unfold sAsgN
  congr
@[simp] theorem e_AsgG (fa : FE) (g : FG) (δ : DS) (m : Mem) : sAsgG fa g δ m = thenS (fa δ m) δ fun d m => nxO (g d δ) m := by
  unfold sAsgG
  congr
def nxM (δ : DS) (m : Option Mem) : SR := match m with
  | some m => .nx δ m
  | none => .bad
@[simp] theorem nxM_some (δ : DS) (m : Mem) : nxM δ (some m) = .nx δ m := id rfl
@[simp] theorem e_Sub (fv fo fk : FE) (δ : DS) (m : Mem) : sSub fv fo fk δ m = thenS (fv δ m) δ fun v m => thenS (fo δ m) δ fun o m => thenS (fk δ m) δ fun k m => nxM δ (setM o k v m) := by
  unfold sSub
  congr
@[simp] theorem gN_p (i : Nat) (x : P) (δ : DS) : gN i (.p x) δ = if i < δ.length then some (δ.set i (.p x)) else none := id rfl
@[simp] theorem gN_ref (i j : Nat) (δ : DS) : gN i (.ref j) δ = if i < δ.length then some (δ.set i (.ref j)) else none := id rfl
@[simp] theorem gT_tup (n : Nat) (gs : FGs) (xs : List P) (δ : DS) : gT n gs (.p (.tup xs)) δ = if xs.length = n then gs xs δ else none := id rfl
@[simp] theorem gsN_nil (δ : DS) : gsN [] δ = some δ := id rfl
@[simp] theorem gsC_cons (g : FG) (gs : FGs) (x : P) (xs : List P) (δ : DS) : gsC g gs (x :: xs) δ = (g (.p x) δ).bind (gs xs) := id rfl
@[simp] theorem e_Par2 (fr : FA) (i j : Nat) (δ : DS) (m : Mem) : sPar2 fr i j δ m = thenS (fr δ m) δ fun ds m => match ds with
  | [d, e] => if i < δ.length ∧ j < δ.length then .nx ((δ.set i d).set j e) m else .bad
  | _ => .bad := id rfl
@[simp] theorem e_Par3 (fr : FA) (i j k : Nat) (δ : DS) (m : Mem) : sPar3 fr i j k δ m = thenS (fr δ m) δ fun ds m => match ds with
  | [d, e, f] => if i < δ.length ∧ j < δ.length ∧ k < δ.length then .nx (((δ.set i d).set j e).set k f) m else .bad
  | _ => .bad := id rfl
@[simp] theorem e_For (fi : FI) (g : FG) (fb : FS) (δ : DS) (m : Mem) : sFor fi g fb δ m = thenS (fi δ m) δ fun it m => forL g fb it.ok it.items δ m := id rfl
@[simp] theorem starts_eq (N : List Str) (ds : List D) : starts N ds = ds ++ List.replicate (N.length - ds.length) .und := id rfl
@[simp] theorem e_fnS (N : List Str) (k : Nat) (fb : FS) (ds : List D) (m : Mem) : fnS N k fb ds m = if ds.length = k then fin m.length (fb (starts N ds) m) else .bad := id rfl
@[simp] theorem fin_p (n : Nat) (x : P) (m : Mem) : fin n (.rt (.p x) m) = .ok (.p x) (m.take n) := id rfl
@[simp] theorem fin_nx (n : Nat) (δ : DS) (m : Mem) : fin n (.nx δ m) = .ok (.p .non) (m.take n) := id rfl
/-! ### what is walked -/
def itR (it : Option Itm) (m : Mem) : ER Itm := match it with
  | some it => .ok it m
  | none => .bad
@[simp] theorem itR_some (it : Itm) (m : Mem) : itR (some it) m = .ok it m := id rfl
@[simp] theorem e_It (fa : FE) (δ : DS) (m : Mem) : sIt fa δ m = (fa δ m).bind fun d m => itR (itOf d m) m := by
  show (fa δ m).bind _ = _
  congr
@[simp] theorem itOf_lst (xs : List P) (m : Mem) : itOf (.p (.lst xs)) m = some ⟨xs, fun _ => true⟩ := id rfl
@[simp] theorem itOf_tup (xs : List P) (m : Mem) : itOf (.p (.tup xs)) m = some ⟨xs, fun _ => true⟩ := id rfl
@[simp] theorem itOf_str (x : Str) (m : Mem) : itOf (.p (.str x)) m = some ⟨letters x, fun _ => true⟩ := id rfl
@[simp] theorem e_It1 (fr : FA) (δ : DS) (m : Mem) : sIt1 fr δ m = (fr δ m).bind fun ds m => itR ((rg1 ds).map fun j => ⟨upFrom 0 j.toNat, fun _ => true⟩) m := by
  show (fr δ m).bind _ = _
  congr
  funext d m
  cases rg1 d <;> rfl
@[simp] theorem e_It2 (fr : FA) (δ : DS) (m : Mem) : sIt2 fr δ m = (fr δ m).bind fun ds m => itR ((rg2 ds).map fun q => ⟨upFrom q.1 (q.2 - q.1).toNat, fun _ => true⟩) m := by
  show (fr δ m).bind _ = _
  congr
  funext d m
  cases rg2 d <;> rfl
@[simp] theorem rg1_int (j : Int) : rg1 [.p (.int j)] = if -(2 ^ 62) ≤ j ∧ j < 2 ^ 62 then some j else none := id rfl
@[simp] theorem rg2_int (i j : Int) : rg2 [.p (.int i), .p (.int j)] = if -(2 ^ 62) ≤ i ∧ i < 2 ^ 62 ∧ -(2 ^ 62) ≤ j ∧ j < 2 ^ 62 then some (i, j) else none := id rfl
@[simp] theorem e_ItE (fr : FA) (δ : DS) (m : Mem) : sItE fr δ m = (fr δ m).bind fun ds m => match ds with
  | [d] => (match itOf d m with
    | some it => if isStr (view d m) = true then .bad else .ok ⟨numd it.items, it.ok⟩ m
    | none => .bad)
  | _ => .bad := id rfl
@[simp] theorem e_ItZ (fr : FA) (δ : DS) (m : Mem) : sItZ fr δ m = (fr δ m).bind fun ds m => match ds with
  | [d, e] => (match itOf d m, itOf e m, view d m, view e m with
    | some it, some it2, some (.lst _), some (.lst _) => .ok ⟨paird it.items it2.items, fun m => it.ok m && it2.ok m⟩ m
    | some it, some it2, some (.tup _), some (.tup _) => .ok ⟨paird it.items it2.items, fun m => it.ok m && it2.ok m⟩ m
    | _, _, _, _ => .bad)
  | _ => .bad := id rfl
@[simp] theorem isStr_lst (xs : List P) : isStr (some (.lst xs)) = false := id rfl
@[simp] theorem isStr_tup (xs : List P) : isStr (some (.tup xs)) = false := id rfl
@[simp] theorem e_Lc (fi : FI) (g : FG) (ft : FB) (fe : FE) (vs : List Nat) (δ : DS) (m : Mem) : sLc fi g ft fe vs δ m = (fi δ m).bind fun it m => (compL g ft (elt fe) it.ok (wipeD δ vs) it.items m).bindN mkL := id rfl
@[simp] theorem e_Lc2 (fi : FI) (g : FG) (ft : FB) (fi1 : FI) (g1 : FG) (ft1 : FB) (fe : FE) (vs vs1 : List Nat) (δ : DS) (m : Mem) : sLc2 fi g ft fi1 g1 ft1 fe vs vs1 δ m = (fi δ m).bind fun it m => (compL g ft (inner fi1 g1 ft1 fe vs1) it.ok (wipeD δ vs) it.items m).bindN mkL := id rfl
@[simp] theorem e_Yes (δ : DS) (m : Mem) : sYes δ m = .ok true m := id rfl
@[simp] theorem wipeD_nil (δ : DS) : wipeD δ [] = δ := id rfl
@[simp] theorem wipeD_cons (δ : DS) (v : Nat) (vs : List Nat) : wipeD δ (v :: vs) = (wipeD δ vs).set v .und := id rfl
theorem elt_ok {fe : FE} {δ : DS} {m m' : Mem} {y : P} (h : fe δ m = .ok (.p y) m') : elt fe δ m = .ok [y] m' := by
  unfold elt
  rw [h]
  rfl
/-- a comprehension whose elements all come out without a look at what is written -/
theorem compL_pure {g : FG} {ft : FB} {fe : FE} {δ : DS} {m : Mem} (t : P → Bool) (v : P → P) : ∀ {xs : List P}, (∀ x ∈ xs, ∃ δ1, g (.p x) δ = some δ1 ∧ ft δ1 m = .ok (t x) m ∧ (t x = true → fe δ1 m = .ok (.p (v x)) m)) →
    compL g ft (elt fe) (fun _ => true) δ xs m = .ok ((xs.filter t).map v) m
  | [], _ => rfl
  | x :: xs, h => by
    obtain ⟨δ1, h1, h2, h3⟩ := h x List.mem_cons_self
    have ih := compL_pure t v (xs := xs) fun y hy => h y (List.mem_cons_of_mem _ hy)
    unfold compL
    rw [if_pos rfl, h1]
    dsimp only
    rw [h2]
    dsimp only [ER.bindN_ok]
    cases ht : t x with
    | false => rw [if_neg (by decide), ih, List.filter_cons_of_neg (by rw [ht]; decide)]
    | true =>
      rw [if_pos rfl, List.filter_cons_of_pos ht, List.map_cons]
      rw [elt_ok (h3 ht), ER.bindN_ok, ih]
      rfl
@[simp] theorem mkL_le {xs : List P} {m : Mem} (h : xs.length ≤ 16777216) : mkL xs m = .ok (.p (.lst xs)) m := by unfold mkL; rw [if_pos h]
/-! ### dicts -/
@[simp] theorem e_CallD (g : List P → Option MO) (fr : FA) (δ : DS) (m : Mem) : sCallD g fr δ m = (fr δ m).bind fun ds m => newD ((views ds m).bind g) m := id rfl
@[simp] theorem newD_some (o : MO) (m : Mem) : newD (some o) m = .ok (.ref m.length) (m ++ [some o]) := id rfl
@[simp] theorem e_Dc (T : Bool) (fi : FI) (g : FG) (fk fv : FE) (vs : List Nat) (δ : DS) (m : Mem) : sDc T fi g fk fv vs δ m = (fi δ m).bind fun it m => (dcL g fk fv it.ok (wipeD δ vs) it.items m).bindN fun ps m => newD (dOf T ps) m := id rfl
@[simp] theorem e_ItI (fa : FE) (δ : DS) (m : Mem) : sItI fa δ m = (fa δ m).bind fun d m => toIt (itemsOf (valP d)) m := id rfl
@[simp] theorem e_ItV (fa : FE) (δ : DS) (m : Mem) : sItV fa δ m = (fa δ m).bind fun d m => toIt (valsOf (valP d)) m := id rfl
@[simp] theorem toIt_some (xs : List P) (m : Mem) : toIt (some xs) m = .ok ⟨xs, fun _ => true⟩ m := id rfl
@[simp] theorem itOf_dT (ks xs : List P) (m : Mem) : itOf (.p (.dT ks xs)) m = some ⟨ks, fun _ => true⟩ := id rfl
@[simp] theorem itOf_dK (ks : List Key) (xs : List P) (m : Mem) : itOf (.p (.dK ks xs)) m = some ⟨ks.map keyP, fun _ => true⟩ := id rfl
@[simp] theorem e_LcM (fi : FI) (g : FG) (ft : FB) (fe : FE) (vs : List Nat) (δ : DS) (m : Mem) : sLcM fi g ft fe vs δ m = (fi δ m).bind fun it m => (compL g ft (elt fe) it.ok (wipeD δ vs) it.items m).bindN mkLM := id rfl
theorem mkLM_le {xs : List P} {m : Mem} (h : xs.length ≤ 16777216) : mkLM xs m = .ok (.ref m.length) (m ++ [some (.lst xs)]) := by unfold mkLM; rw [if_pos h]
@[simp] theorem isDV_dK (ks : List Key) (xs : List P) : isDV (some (.dK ks xs)) = true := id rfl
def get2D (a b : Option P) (x : D) (m : Mem) : ER D := match a.bind fun a => b.bind fun b => match x with
    | .p c => pGet2 a b c
    | _ => none with
  | some z => .ok (.p z) m
  | none => .bad
@[simp] theorem get2D_p (a b c : P) (m : Mem) : get2D (some a) (some b) (.p c) m = okO (pGet2 a b c) m := by
  unfold get2D okO
  cases h : pGet2 a b c <;> simp [h]
@[simp] theorem e_Get2 (fo fe ff : FE) (δ : DS) (m : Mem) : sGet2 fo fe ff δ m = (fo δ m).bind fun d m => if isDV (view d m) = true then (fe δ m).bind fun k m => (ff δ m).bind fun x m => get2D (view d m) (view k m) x m else .bad := id rfl
@[simp] theorem e_Disp (l : List (FE × FE)) (δ : DS) (m : Mem) : sDisp l δ m = (dPairs l δ m).bindN mkD := id rfl
@[simp] theorem dPairs_nil (δ : DS) (m : Mem) : dPairs [] δ m = .ok [] m := id rfl
def pair1 (d e : D) (ps : ER (List (P × P))) : ER (List (P × P)) := match d, e with
  | .p x, .p y => ps.bindN fun ps m => .ok ((x, y) :: ps) m
  | _, _ => .bad
@[simp] theorem pair1_p (x y : P) (r : ER (List (P × P))) : pair1 (.p x) (.p y) r = r.bindN fun ps m => .ok ((x, y) :: ps) m := id rfl
@[simp] theorem dPairs_cons (fk fv : FE) (l : List (FE × FE)) (δ : DS) (m : Mem) : dPairs ((fk, fv) :: l) δ m = (fk δ m).bindN fun d m => (fv δ m).bindN fun e m => pair1 d e (dPairs l δ m) := by
  rw [dPairs]
  rfl
end DL

set_option Elab.async false
set_option linter.all false
set_option maxRecDepth 100000
/-! Plain part w: what is wanted behind a result, step by step. -/
namespace DL
open PySem PySem.Spec PyProof.Rows L2
/-- so that simp lets what is wanted alone -/
inductive Tg {α : Type} (Y : P → Mem → Prop) (Q : α → Mem → Prop) : Type where
  | tg
/-- Q holds of what comes out, Y of what is raised -/
def wE {α : Type} (r : ER α) (Y : P → Mem → Prop) (Q : α → Mem → Prop) (_u : Tg Y Q := .tg) : Prop := match r with
  | .ok a m => Q a m
  | .ex x m => Y x m
  | .bad => False
section
variable {α β : Type} {Y : P → Mem → Prop} {Q : α → Mem → Prop}
@[simp] theorem wE_ok (a : α) (m : Mem) : wE (.ok a m) Y Q = Q a m := id rfl
@[simp] theorem wE_ex (x : P) (m : Mem) : wE (.ex x m : ER α) Y Q = Y x m := id rfl
@[simp] theorem wE_bad : wE (.bad : ER α) Y Q = False := id rfl
@[simp] theorem wE_bind (r : ER β) (f : β → Mem → ER α) : wE (r.bind f) Y Q = wE r Y fun a m => wE (f a m) Y Q := by cases r <;> rfl
@[simp] theorem wE_bindN (r : ER β) (f : β → Mem → ER α) : wE (r.bindN f) Y Q = wE r (fun _ _ => False) fun a m => wE (f a m) Y Q := by cases r <;> rfl
theorem wE_imp {r : ER α} {Q' : α → Mem → Prop} (h : wE r Y Q) (k : ∀ a m, Q a m → Q' a m) : wE r Y Q' := by
  cases r with
  | ok a m => exact k a m h
  | ex x m => exact h
  | bad => exact h
theorem wE_impX {r : ER α} {Y' : P → Mem → Prop} {Q' : α → Mem → Prop} (h : wE r Y Q) (k : ∀ a m, Q a m → Q' a m) (kx : ∀ x m, Y x m → Y' x m) : wE r Y' Q' := by
  cases r with
  | ok a m => exact k a m h
  | ex x m => exact kx x m h
  | bad => exact h
theorem wE_of {r : ER α} {a : α} {m : Mem} (e : r = .ok a m) (h : Q a m) : wE r Y Q := by rw [e]; exact h
theorem wE_to {r : ER α} {P : α → Mem → Prop} (h : wE r (fun _ _ => False) P) : ∃ a m, r = .ok a m ∧ P a m := by
  cases r with
  | ok a m => exact ⟨a, m, rfl, h⟩
  | ex x m => exact h.elim
  | bad => exact h.elim
end
/-- what is wanted behind a statement -/
structure SQ where
  nx : DS → Mem → Prop
  rt : D → Mem → Prop
  bk : DS → Mem → Prop
  ct : DS → Mem → Prop
  ex : P → DS → Mem → Prop
inductive Tg2 (E : SQ) : Type where
  | tg
def wS (r : SR) (E : SQ) (_u : Tg2 E := .tg) : Prop := match r with
  | .nx δ m => E.nx δ m
  | .rt d m => E.rt d m
  | .bk δ m => E.bk δ m
  | .ct δ m => E.ct δ m
  | .ex x δ m => E.ex x δ m
  | .bad => False
section
variable {E : SQ}
@[simp] theorem wS_nx (δ : DS) (m : Mem) : wS (.nx δ m) E = E.nx δ m := id rfl
@[simp] theorem wS_rt (d : D) (m : Mem) : wS (.rt d m) E = E.rt d m := id rfl
@[simp] theorem wS_bk (δ : DS) (m : Mem) : wS (.bk δ m) E = E.bk δ m := id rfl
@[simp] theorem wS_ct (δ : DS) (m : Mem) : wS (.ct δ m) E = E.ct δ m := id rfl
@[simp] theorem wS_ex (x : P) (δ : DS) (m : Mem) : wS (.ex x δ m) E = E.ex x δ m := id rfl
@[simp] theorem wS_bad : wS .bad E = False := id rfl
@[simp] theorem wS_seq (r : SR) (g : FS) : wS (r.seq g) E = wS r { E with nx := fun δ m => wS (g δ m) E } := by cases r <;> rfl
@[simp] theorem wS_then {α : Type} (r : ER α) (δ : DS) (k : α → Mem → SR) : wS (thenS r δ k) E = wE r (fun x m => E.ex x δ m) fun a m => wS (k a m) E := by cases r <;> rfl
theorem wS_imp {r : SR} {E' : SQ} (h : wS r E) (h1 : ∀ δ m, E.nx δ m → E'.nx δ m) (h2 : ∀ d m, E.rt d m → E'.rt d m) (h3 : ∀ δ m, E.bk δ m → E'.bk δ m) (h4 : ∀ δ m, E.ct δ m → E'.ct δ m) (h5 : ∀ x δ m, E.ex x δ m → E'.ex x δ m) : wS r E' := by
  cases r with
  | nx δ m => exact h1 _ _ h
  | rt d m => exact h2 _ _ h
  | bk δ m => exact h3 _ _ h
  | ct δ m => exact h4 _ _ h
  | ex x δ m => exact h5 _ _ _ h
  | bad => exact h
end
/-- a def's end -/
def wD (n : Nat) (d : D) (m : Mem) (Q : D → Mem → Prop) : Prop := match d with
  | .p x => Q (.p x) (m.take n)
  | .ref j => if j < n then Q (.ref j) (m.take n) else match m[j]? with
    | some (some o) => Q (.ref n) (m.take n ++ [some o])
    | _ => False
  | .und => False
@[simp] theorem wD_p (n : Nat) (x : P) (m : Mem) (Q : D → Mem → Prop) : wD n (.p x) m Q = Q (.p x) (m.take n) := id rfl
@[simp] theorem wE_fin (n : Nat) (r : SR) (Y : P → Mem → Prop) (Q : D → Mem → Prop) : wE (fin n r) Y Q = wS r ⟨fun _ m => Q (.p .non) (m.take n), fun d m => wD n d m Q, fun _ _ => False, fun _ _ => False, fun x _ m => Y x (m.take n)⟩ := by
  cases r with
  | nx δ m => rfl
  | rt d m =>
    cases d with
    | p x => rfl
    | und => rfl
    | ref j =>
      show wE (if j < n then _ else _) Y Q = (if j < n then _ else _)
      split
      · rfl
      · cases m[j]? with
        | none => rfl
        | some o => cases o <;> rfl
  | bk δ m => rfl
  | ct δ m => rfl
  | ex x δ m => rfl
  | bad => rfl
/-- of two ways -/
theorem wE_ite {α : Type} {c : Prop} [Decidable c] {a b : ER α} {Y : P → Mem → Prop} {Q : α → Mem → Prop} : wE (if c then a else b) Y Q = if c then wE a Y Q else wE b Y Q := by split <;> rfl
theorem wS_ite {c : Prop} [Decidable c] {a b : SR} {E : SQ} : wS (if c then a else b) E = if c then wS a E else wS b E := by split <;> rfl
/-! ### loops -/
theorem wS_for {g : FG} {fb : FS} {ok : Mem → Bool} {E : SQ} (I : List P → DS → Mem → Prop)
    (hok : ∀ xs δ m, I xs δ m → ok m = true)
    (turn : ∀ x xs δ m, I (x :: xs) δ m → ∃ δ1, g (.p x) δ = some δ1 ∧ wS (fb δ1 m) { E with nx := I xs, ct := I xs, bk := E.nx })
    (last : ∀ δ m, I [] δ m → E.nx δ m) : ∀ (xs : List P) (δ : DS) (m : Mem), I xs δ m → wS (forL g fb ok xs δ m) E
  | [], δ, m, h => by
    rw [forL, if_pos (hok _ _ _ h)]
    exact last δ m h
  | x :: xs, δ, m, h => by
    rw [forL, if_pos (hok _ _ _ h)]
    obtain ⟨δ1, e, w⟩ := turn x xs δ m h
    rw [e]
    show wS (match fb δ1 m with
      | .nx δ2 m2 => forL g fb ok xs δ2 m2
      | .ct δ2 m2 => forL g fb ok xs δ2 m2
      | .bk δ2 m2 => .nx δ2 m2
      | .rt d m2 => .rt d m2
      | .ex x δ2 m2 => .ex x δ2 m2
      | .bad => .bad) E
    cases q : fb δ1 m with
    | nx δ2 m2 => rw [q] at w; exact wS_for I hok turn last xs δ2 m2 w
    | ct δ2 m2 => rw [q] at w; exact wS_for I hok turn last xs δ2 m2 w
    | bk δ2 m2 => rw [q] at w; exact w
    | rt d m2 => rw [q] at w; exact w
    | ex x δ2 m2 => rw [q] at w; exact w
    | bad => rw [q] at w; exact w
/-- over things that stand for data -/
theorem wS_forE {α : Type} (en : α → P) {g : FG} {fb : FS} {ok : Mem → Bool} {E : SQ} (I : List α → DS → Mem → Prop)
    (hok : ∀ xs δ m, I xs δ m → ok m = true)
    (turn : ∀ x xs δ m, I (x :: xs) δ m → ∃ δ1, g (.p (en x)) δ = some δ1 ∧ wS (fb δ1 m) { E with nx := I xs, ct := I xs, bk := E.nx })
    (last : ∀ δ m, I [] δ m → E.nx δ m) (xs : List α) (δ : DS) (m : Mem) (h : I xs δ m) : wS (forL g fb ok (xs.map en) δ m) E := by
  refine wS_for (fun ys δ m => ∃ xs, ys = xs.map en ∧ I xs δ m) (fun _ δ m ⟨_, _, h⟩ => hok _ δ m h) ?_ ?_ _ δ m ⟨xs, rfl, h⟩
  · intro y ys δ m ⟨zs, e, h⟩
    cases zs with
    | nil => cases e
    | cons z zs =>
      rw [List.map_cons] at e
      injection e with e1 e2
      subst e1 e2
      obtain ⟨δ1, e, w⟩ := turn z zs δ m h
      exact ⟨δ1, e, wS_imp w (fun δ m h => ⟨zs, rfl, h⟩) (fun _ _ h => h) (fun _ _ h => h) (fun δ m h => ⟨zs, rfl, h⟩) (fun _ _ _ h => h)⟩
  · intro δ m ⟨zs, e, h⟩
    cases zs with
    | nil => exact last δ m h
    | cons z zs => cases e
theorem whileF_bad {gc : FB} {fb : FS} {n : Nat} {δ : DS} {m : Mem} {E : SQ} (h : wS (whileF gc fb n δ m) E) : whileF gc fb n δ m ≠ .bad := fun z => by rw [z] at h; exact h
theorem wS_whileF {gc : FB} {fb : FS} {E : SQ} (I : Nat → DS → Mem → Prop)
    (turn : ∀ n δ m, I n δ m → wE (gc δ m) (fun x m => E.ex x δ m) fun c m1 => if c = true then wS (fb δ m1) { E with nx := fun δ m => ∃ k, k < n ∧ I k δ m, ct := fun δ m => ∃ k, k < n ∧ I k δ m, bk := E.nx } else E.nx δ m1) :
    ∀ (n : Nat) (k : Nat), k ≤ n → ∀ (δ : DS) (m : Mem), I k δ m → wS (whileF gc fb (n + 1) δ m) E
  | n, k, hk, δ, m, h => by
    have t := turn k δ m h
    rw [whileF]
    have go : ∀ δ2 m2, (∃ j, j < k ∧ I j δ2 m2) → wS (whileF gc fb n δ2 m2) E := by
      intro δ2 m2 ⟨j, hj, hI⟩
      cases n with
      | zero => omega
      | succ n => exact wS_whileF I turn n j (by omega) δ2 m2 hI
    cases q : gc δ m with
    | bad => rw [q] at t; exact t.elim
    | ex x m1 => rw [q] at t; exact t
    | ok c m1 =>
      rw [q] at t
      cases c with
      | false => exact t
      | true =>
        have t : wS (fb δ m1) { E with nx := fun δ m => ∃ j, j < k ∧ I j δ m, ct := fun δ m => ∃ j, j < k ∧ I j δ m, bk := E.nx } := t
        show wS (match fb δ m1 with
          | .nx δ2 m2 => whileF gc fb n δ2 m2
          | .ct δ2 m2 => whileF gc fb n δ2 m2
          | .bk δ2 m2 => .nx δ2 m2
          | .rt d m2 => .rt d m2
          | .ex x δ2 m2 => .ex x δ2 m2
          | .bad => .bad) E
        cases q2 : fb δ m1 with
        | nx δ2 m2 => rw [q2] at t; exact go _ _ t
        | ct δ2 m2 => rw [q2] at t; exact go _ _ t
        | bk δ2 m2 => rw [q2] at t; exact t
        | rt d m2 => rw [q2] at t; exact t
        | ex x δ2 m2 => rw [q2] at t; exact t
        | bad => rw [q2] at t; exact t
/-- n falls at each turn -/
theorem wS_while {gc : FB} {fb : FS} {E : SQ} (I : Nat → DS → Mem → Prop)
    (turn : ∀ n δ m, I n δ m → wE (gc δ m) (fun x m => E.ex x δ m) fun c m1 => if c = true then wS (fb δ m1) { E with nx := fun δ m => ∃ k, k < n ∧ I k δ m, ct := fun δ m => ∃ k, k < n ∧ I k δ m, bk := E.nx } else E.nx δ m1)
    (n : Nat) (δ : DS) (m : Mem) (h : I n δ m) : wS (sWhile gc fb δ m) E := by
  have w := wS_whileF I turn n n (Nat.le_refl _) δ m h
  rw [sWhile_eq (whileF_bad w)]
  exact w
/-! ### comprehensions -/
theorem wE_comp {α : Type} (en : α → P) {g : FG} {ft : FB} {fe : FE} {ok : Mem → Bool} {δ : DS} {Q : List P → Mem → Prop} (I : List α → List P → Mem → Prop)
    (hok : ∀ xs ys m, I xs ys m → ok m = true)
    (turn : ∀ x xs ys m, I (x :: xs) ys m → ∃ δ1, g (.p (en x)) δ = some δ1 ∧ wE (ft δ1 m) (fun _ _ => False) fun b m1 => if b = true then wE (fe δ1 m1) (fun _ _ => False) fun d m2 => ∃ y, d = .p y ∧ I xs (ys ++ [y]) m2 else I xs ys m1)
    (last : ∀ ys m, I [] ys m → Q ys m) : ∀ (xs : List α) (ys : List P) (m : Mem), I xs ys m → wE (compL g ft (elt fe) ok δ (xs.map en) m) (fun _ _ => False) fun zs m => Q (ys ++ zs) m
  | [], ys, m, h => by
    rw [List.map_nil, compL, if_pos (hok _ _ _ h)]
    simpa using last ys m h
  | x :: xs, ys, m, h => by
    obtain ⟨δ1, e, w⟩ := turn x xs ys m h
    rw [List.map_cons, compL, if_pos (hok _ _ _ h), e]
    show wE ((ft δ1 m).bindN _) _ _
    rw [wE_bindN]
    refine wE_imp w fun b m1 h1 => ?_
    cases b with
    | false =>
      rw [if_neg (by decide)] at h1 ⊢
      exact wE_comp en I hok turn last xs ys m1 h1
    | true =>
      rw [if_pos rfl] at h1 ⊢
      unfold elt
      rw [wE_bindN, wE_bindN]
      refine wE_imp h1 fun d m2 ⟨y, e, h2⟩ => ?_
      subst e
      show wE (ER.bindN _ _) _ _
      rw [wE_bindN]
      refine wE_imp (wE_comp en I hok turn last xs (ys ++ [y]) m2 h2) fun zs m3 h3 => ?_
      show Q (ys ++ ([y] ++ zs)) m3
      rw [← List.append_assoc]
      exact h3
/-- each element comes out by itself, nothing is written -/
theorem compL_map {α β : Type} (en : α → P) (eo : β → P) (t : α → Bool) (v : α → β) {g : FG} {ft : FB} {fe : FE} {ok : Mem → Bool} {δ : DS} {m : Mem} (hok : ok m = true) : ∀ {xs : List α}, (∀ x ∈ xs, ∃ δ1, g (.p (en x)) δ = some δ1 ∧ ft δ1 m = .ok (t x) m ∧ (t x = true → fe δ1 m = .ok (.p (eo (v x))) m)) →
    compL g ft (elt fe) ok δ (xs.map en) m = .ok (((xs.filter t).map v).map eo) m
  | [], _ => by rw [List.map_nil, compL, if_pos hok]; rfl
  | x :: xs, h => by
    obtain ⟨δ1, h1, h2, h3⟩ := h x List.mem_cons_self
    have ih := compL_map en eo t v hok (xs := xs) fun y hy => h y (List.mem_cons_of_mem _ hy)
    rw [List.map_cons, compL, if_pos hok, h1]
    dsimp only
    rw [h2]
    dsimp only [ER.bindN_ok]
    cases ht : t x with
    | false => rw [if_neg (by decide), ih, List.filter_cons_of_neg (by rw [ht]; decide)]
    | true =>
      rw [if_pos rfl, List.filter_cons_of_pos ht, List.map_cons, List.map_cons]
      rw [elt_ok (h3 ht), ER.bindN_ok, ih]
      rfl
end DL

set_option Elab.async false
set_option linter.all false
set_option maxRecDepth 100000
set_option maxHeartbeats 1000000
/-! Plain part t: data by their sorts: ==, <, in, sorted, keys. -/
namespace DL
open PySem PySem.Spec PyProof.Rows L2
inductive Ty where
  | int | bl | str | non | opt (t : Ty) | tup (ts : List Ty) | seq (t : Ty) | lst (t : Ty)
mutual
def Ty.has : Ty → P → Bool
  | .int, .int _ => true
  | .bl, .bl _ => true
  | .str, .str _ => true
  | .non, .non => true
  | .opt t, x => x.isNon || Ty.has t x
  | .tup ts, .tup xs => Ty.hasL ts xs
  | .seq t, .tup xs => xs.all fun x => Ty.has t x
  | .lst t, .lst xs => xs.all fun x => Ty.has t x
  | _, _ => false
def Ty.hasL : List Ty → List P → Bool
  | [], [] => true
  | t :: ts, x :: xs => Ty.has t x && Ty.hasL ts xs
  | _, _ => false
end
def Ty.sure : Ty → Bool
  | .non => false
  | .opt _ => false
  | _ => true
theorem isNon_eq {x : P} (h : x.isNon = true) : x = .non := by
  cases x <;> first | rfl | (simp [P.isNon] at h; done)
mutual
/-- no list within; no None beside others -/
def Ty.key : Ty → Bool
  | .opt t => Ty.key t && Ty.sure t
  | .tup ts => Ty.keyL ts
  | .seq t => Ty.key t
  | .lst _ => false
  | _ => true
def Ty.keyL : List Ty → Bool
  | [] => true
  | t :: ts => Ty.key t && Ty.keyL ts
end
mutual
/-- any two can be compared -/
def Ty.ord : Ty → Bool
  | .opt _ => false
  | .tup ts => Ty.ordL ts
  | .seq t => Ty.ord t
  | .lst t => Ty.ord t
  | _ => true
def Ty.ordL : List Ty → Bool
  | [] => true
  | t :: ts => Ty.ord t && Ty.ordL ts
end
mutual
def Ty.dep : Ty → Nat
  | .opt t => Ty.dep t
  | .tup ts => Ty.depL ts + 1
  | .seq t => Ty.dep t + 1
  | .lst t => Ty.dep t + 1
  | _ => 0
def Ty.depL : List Ty → Nat
  | [] => 0
  | t :: ts => max (Ty.dep t) (Ty.depL ts)
end
theorem plainL_of {xs : List P} (h : ∀ x ∈ xs, x.plain = true) : P.plainL xs = true := by
  rw [P.plainL_eq, List.all_eq_true]; exact h
theorem depL_of {n : Nat} : ∀ {xs : List P}, (∀ x ∈ xs, x.dep ≤ n) → P.depL xs ≤ n
  | [], _ => by simp [P.depL]
  | x :: xs, h => by
    have h1 := h x List.mem_cons_self
    have h2 := depL_of (n := n) (xs := xs) fun y hy => h y (List.mem_cons_of_mem _ hy)
    rw [P.depL]; omega
theorem all_mem {t : Ty} {xs : List P} (h : (xs.all fun x => t.has x) = true) : ∀ x ∈ xs, t.has x = true := List.all_eq_true.mp h
mutual
theorem Ty.plain : ∀ (t : Ty) (x : P), t.has x = true → x.plain = true
  | .int, x, h => by cases x <;> first | rfl | (simp [Ty.has] at h; done)
  | .bl, x, h => by cases x <;> first | rfl | (simp [Ty.has] at h; done)
  | .str, x, h => by cases x <;> first | rfl | (simp [Ty.has] at h; done)
  | .non, x, h => by cases x <;> first | rfl | (simp [Ty.has] at h; done)
  | .opt t, x, h => by
    rw [Ty.has, Bool.or_eq_true] at h
    rcases h with h | h
    · rw [isNon_eq h]; rfl
    · exact Ty.plain t x h
  | .tup ts, x, h => by
    cases x with
    | tup xs => rw [P.plain]; exact Ty.plainL ts xs (by rw [Ty.has] at h; exact h)
    | _ => simp [Ty.has] at h
  | .seq t, x, h => by
    cases x with
    | tup xs => rw [P.plain]; exact plainL_of fun y hy => Ty.plain t y (all_mem (by rw [Ty.has] at h; exact h) y hy)
    | _ => simp [Ty.has] at h
  | .lst t, x, h => by
    cases x with
    | lst xs => rw [P.plain]; exact plainL_of fun y hy => Ty.plain t y (all_mem (by rw [Ty.has] at h; exact h) y hy)
    | _ => simp [Ty.has] at h
theorem Ty.plainL : ∀ (ts : List Ty) (xs : List P), Ty.hasL ts xs = true → P.plainL xs = true
  | [], [], _ => rfl
  | [], _ :: _, h => by simp [Ty.hasL] at h
  | _ :: _, [], h => by simp [Ty.hasL] at h
  | t :: ts, x :: xs, h => by
    rw [Ty.hasL, Bool.and_eq_true] at h
    rw [P.plainL, Ty.plain t x h.1, Ty.plainL ts xs h.2]; rfl
end
mutual
theorem Ty.dep_le : ∀ (t : Ty) (x : P), t.has x = true → x.dep ≤ t.dep
  | .int, x, h => by cases x <;> first | (simp [P.dep]; done) | (simp [Ty.has] at h; done)
  | .bl, x, h => by cases x <;> first | (simp [P.dep]; done) | (simp [Ty.has] at h; done)
  | .str, x, h => by cases x <;> first | (simp [P.dep]; done) | (simp [Ty.has] at h; done)
  | .non, x, h => by cases x <;> first | (simp [P.dep]; done) | (simp [Ty.has] at h; done)
  | .opt t, x, h => by
    rw [Ty.has, Bool.or_eq_true] at h
    rw [Ty.dep]
    rcases h with h | h
    · rw [isNon_eq h]; simp [P.dep]
    · exact Ty.dep_le t x h
  | .tup ts, x, h => by
    cases x with
    | tup xs =>
      have := Ty.depL_le ts xs (by rw [Ty.has] at h; exact h)
      rw [P.dep, Ty.dep]; omega
    | _ => simp [Ty.has] at h
  | .seq t, x, h => by
    cases x with
    | tup xs =>
      have := depL_of (n := t.dep) fun y hy => Ty.dep_le t y (all_mem (by rw [Ty.has] at h; exact h) y hy)
      rw [P.dep, Ty.dep]; omega
    | _ => simp [Ty.has] at h
  | .lst t, x, h => by
    cases x with
    | lst xs =>
      have := depL_of (n := t.dep) fun y hy => Ty.dep_le t y (all_mem (by rw [Ty.has] at h; exact h) y hy)
      rw [P.dep, Ty.dep]; omega
    | _ => simp [Ty.has] at h
theorem Ty.depL_le : ∀ (ts : List Ty) (xs : List P), Ty.hasL ts xs = true → P.depL xs ≤ Ty.depL ts
  | [], [], _ => by simp [P.depL]
  | [], _ :: _, h => by simp [Ty.hasL] at h
  | _ :: _, [], h => by simp [Ty.hasL] at h
  | t :: ts, x :: xs, h => by
    rw [Ty.hasL, Bool.and_eq_true] at h
    have h1 := Ty.dep_le t x h.1
    have h2 := Ty.depL_le ts xs h.2
    rw [P.depL, Ty.depL]; omega
end
theorem eqvL_of {R : P → Prop} (hr : ∀ x y, R x → R y → P.eqv x y = decide (x = y)) : ∀ {xs ys : List P}, (∀ x ∈ xs, R x) → (∀ y ∈ ys, R y) → P.eqvL xs ys = decide (xs = ys)
  | [], [], _, _ => by simp [P.eqvL]
  | [], _ :: _, _, _ => by simp [P.eqvL]
  | _ :: _, [], _, _ => by simp [P.eqvL]
  | x :: xs, y :: ys, h, k => by
    rw [P.eqvL, hr x y (h x List.mem_cons_self) (k y List.mem_cons_self), eqvL_of hr (fun z hz => h z (List.mem_cons_of_mem _ hz)) fun z hz => k z (List.mem_cons_of_mem _ hz)]
    simp
mutual
theorem Ty.eqv : ∀ (t : Ty) (x y : P), t.has x = true → t.has y = true → P.eqv x y = decide (x = y)
  | .int, x, y, h, k => by
    cases x <;> first | (simp [Ty.has] at h; done) | skip
    cases y <;> first | (simp [Ty.has] at k; done) | simp [P.eqv]
  | .bl, x, y, h, k => by
    cases x <;> first | (simp [Ty.has] at h; done) | skip
    cases y <;> first | (simp [Ty.has] at k; done) | simp [P.eqv, beq_dec]
  | .str, x, y, h, k => by
    cases x <;> first | (simp [Ty.has] at h; done) | skip
    cases y <;> first | (simp [Ty.has] at k; done) | simp [P.eqv]
  | .non, x, y, h, k => by
    cases x <;> first | (simp [Ty.has] at h; done) | skip
    cases y <;> first | (simp [Ty.has] at k; done) | simp [P.eqv]
  | .opt t, x, y, h, k => by
    rw [Ty.has, Bool.or_eq_true] at h k
    rcases h with h | h
    · have hx : x = .non := isNon_eq h
      subst hx
      cases y <;> simp [P.eqv]
    · rcases k with k | k
      · have hy : y = .non := isNon_eq k
        subst hy
        cases x <;> simp [P.eqv]
      · exact Ty.eqv t x y h k
  | .tup ts, x, y, h, k => by
    cases x with
    | tup xs =>
      cases y with
      | tup ys =>
        rw [Ty.has] at h k
        rw [P.eqv, Ty.eqvL ts xs ys h k]
        simp
      | _ => simp [Ty.has] at k
    | _ => simp [Ty.has] at h
  | .seq t, x, y, h, k => by
    cases x with
    | tup xs =>
      cases y with
      | tup ys =>
        rw [Ty.has] at h k
        rw [P.eqv, eqvL_of (R := fun x => t.has x = true) (fun x y hx hy => Ty.eqv t x y hx hy) (all_mem h) (all_mem k)]
        simp
      | _ => simp [Ty.has] at k
    | _ => simp [Ty.has] at h
  | .lst t, x, y, h, k => by
    cases x with
    | lst xs =>
      cases y with
      | lst ys =>
        rw [Ty.has] at h k
        rw [P.eqv, eqvL_of (R := fun x => t.has x = true) (fun x y hx hy => Ty.eqv t x y hx hy) (all_mem h) (all_mem k)]
        simp
      | _ => simp [Ty.has] at k
    | _ => simp [Ty.has] at h
theorem Ty.eqvL : ∀ (ts : List Ty) (xs ys : List P), Ty.hasL ts xs = true → Ty.hasL ts ys = true → P.eqvL xs ys = decide (xs = ys)
  | [], [], [], _, _ => by simp [P.eqvL]
  | [], _ :: _, _, h, _ => by simp [Ty.hasL] at h
  | [], [], _ :: _, _, h => by simp [Ty.hasL] at h
  | _ :: _, [], _, h, _ => by simp [Ty.hasL] at h
  | _ :: _, _ :: _, [], _, h => by simp [Ty.hasL] at h
  | t :: ts, x :: xs, y :: ys, h, k => by
    rw [Ty.hasL, Bool.and_eq_true] at h k
    rw [P.eqvL, Ty.eqv t x y h.1 k.1, Ty.eqvL ts xs ys h.2 k.2]
    simp
end
theorem alikeAll_of {R : P → Prop} (hr : ∀ x y, R x → R y → PySem.W.alike x.py y.py = true) : ∀ {xs ys : List P}, (∀ x ∈ xs, R x) → (∀ y ∈ ys, R y) → PySem.W.alikeAll (P.pyL xs) (P.pyL ys) = true
  | [], _, _, _ => by simp [P.pyL, PySem.W.alikeAll]
  | _ :: _, [], _, _ => by simp [P.pyL, PySem.W.alikeAll]
  | x :: xs, y :: ys, h, k => by
    rw [P.pyL, P.pyL, PySem.W.alikeAll, hr x y (h x List.mem_cons_self) (k y List.mem_cons_self), alikeAll_of hr (fun z hz => h z (List.mem_cons_of_mem _ hz)) fun z hz => k z (List.mem_cons_of_mem _ hz)]
    rfl
mutual
theorem Ty.alike : ∀ (t : Ty) (x y : P), t.ord = true → t.has x = true → t.has y = true → PySem.W.alike x.py y.py = true
  | .int, x, y, _, h, k => by
    cases x <;> first | (simp [Ty.has] at h; done) | skip
    cases y <;> first | (simp [Ty.has] at k; done) | simp [P.py, PySem.W.alike]
  | .bl, x, y, _, h, k => by
    cases x <;> first | (simp [Ty.has] at h; done) | skip
    cases y <;> first | (simp [Ty.has] at k; done) | simp [P.py, PySem.W.alike]
  | .str, x, y, _, h, k => by
    cases x <;> first | (simp [Ty.has] at h; done) | skip
    cases y <;> first | (simp [Ty.has] at k; done) | simp [P.py, PySem.W.alike]
  | .non, x, y, _, h, k => by
    cases x <;> first | (simp [Ty.has] at h; done) | skip
    cases y <;> first | (simp [Ty.has] at k; done) | simp [P.py, PySem.W.alike]
  | .opt t, x, y, o, _, _ => by simp [Ty.ord] at o
  | .tup ts, x, y, o, h, k => by
    cases x with
    | tup xs =>
      cases y with
      | tup ys =>
        rw [Ty.has] at h k
        rw [P.py, P.py, PySem.W.alike]
        exact Ty.alikeL ts xs ys (by rw [Ty.ord] at o; exact o) h k
      | _ => simp [Ty.has] at k
    | _ => simp [Ty.has] at h
  | .seq t, x, y, o, h, k => by
    cases x with
    | tup xs =>
      cases y with
      | tup ys =>
        rw [Ty.has] at h k
        rw [P.py, P.py, PySem.W.alike]
        exact alikeAll_of (R := fun x => t.has x = true) (fun x y hx hy => Ty.alike t x y (by rw [Ty.ord] at o; exact o) hx hy) (all_mem h) (all_mem k)
      | _ => simp [Ty.has] at k
    | _ => simp [Ty.has] at h
  | .lst t, x, y, o, h, k => by
    cases x with
    | lst xs =>
      cases y with
      | lst ys =>
        rw [Ty.has] at h k
        rw [P.py, P.py, PySem.W.alike]
        exact alikeAll_of (R := fun x => t.has x = true) (fun x y hx hy => Ty.alike t x y (by rw [Ty.ord] at o; exact o) hx hy) (all_mem h) (all_mem k)
      | _ => simp [Ty.has] at k
    | _ => simp [Ty.has] at h
theorem Ty.alikeL : ∀ (ts : List Ty) (xs ys : List P), Ty.ordL ts = true → Ty.hasL ts xs = true → Ty.hasL ts ys = true → PySem.W.alikeAll (P.pyL xs) (P.pyL ys) = true
  | [], [], [], _, _, _ => by simp [P.pyL, PySem.W.alikeAll]
  | [], _ :: _, _, _, h, _ => by simp [Ty.hasL] at h
  | [], [], _ :: _, _, _, h => by simp [Ty.hasL] at h
  | _ :: _, [], _, _, h, _ => by simp [Ty.hasL] at h
  | _ :: _, _ :: _, [], _, _, h => by simp [Ty.hasL] at h
  | t :: ts, x :: xs, y :: ys, o, h, k => by
    rw [Ty.hasL, Bool.and_eq_true] at h k
    rw [Ty.ordL, Bool.and_eq_true] at o
    rw [P.pyL, P.pyL, PySem.W.alikeAll, Ty.alike t x y o.1 h.1 k.1, Ty.alikeL ts xs ys o.2 h.2 k.2]
    rfl
end
theorem keyedL_of : ∀ {xs : List P}, (∀ x ∈ xs, x.keyed = true) → P.keyedL xs = true
  | [], _ => rfl
  | x :: xs, h => by rw [P.keyedL, h x List.mem_cons_self, keyedL_of fun y hy => h y (List.mem_cons_of_mem _ hy)]; rfl
theorem nkd_of {n : Nat} : ∀ {xs : List P}, (∀ x ∈ xs, x.nk.depth ≤ n) → NestedKey.depthAll (P.nkL xs) ≤ n
  | [], _ => by simp [P.nkL, NestedKey.depthAll]
  | x :: xs, h => by
    have h1 := h x List.mem_cons_self
    have h2 := nkd_of (n := n) (xs := xs) fun y hy => h y (List.mem_cons_of_mem _ hy)
    rw [P.nkL, NestedKey.depthAll]; omega
theorem nkL_inj {R : P → Prop} (hr : ∀ x y, R x → R y → x.nk = y.nk → x = y) : ∀ {xs ys : List P}, (∀ x ∈ xs, R x) → (∀ y ∈ ys, R y) → P.nkL xs = P.nkL ys → xs = ys
  | [], [], _, _, _ => rfl
  | [], _ :: _, _, _, e => by simp [P.nkL] at e
  | _ :: _, [], _, _, e => by simp [P.nkL] at e
  | x :: xs, y :: ys, h, k, e => by
    rw [P.nkL, P.nkL] at e
    injection e with e1 e2
    rw [hr x y (h x List.mem_cons_self) (k y List.mem_cons_self) e1, nkL_inj hr (fun z hz => h z (List.mem_cons_of_mem _ hz)) (fun z hz => k z (List.mem_cons_of_mem _ hz)) e2]
mutual
theorem Ty.keyed : ∀ (t : Ty) (x : P), t.key = true → t.has x = true → x.keyed = true ∧ x.nk.depth ≤ t.dep
  | .int, x, _, h => by cases x <;> first | (simp [P.keyed, P.nk, NestedKey.depth]; done) | (simp [Ty.has] at h; done)
  | .bl, x, _, h => by cases x <;> first | (simp [P.keyed, P.nk, NestedKey.depth]; done) | (simp [Ty.has] at h; done)
  | .str, x, _, h => by cases x <;> first | (simp [P.keyed, P.nk, NestedKey.depth]; done) | (simp [Ty.has] at h; done)
  | .non, x, _, h => by cases x <;> first | (simp [P.keyed, P.nk, NestedKey.depth]; done) | (simp [Ty.has] at h; done)
  | .opt t, x, o, h => by
    rw [Ty.has, Bool.or_eq_true] at h
    rw [Ty.key, Bool.and_eq_true] at o
    rw [Ty.dep]
    rcases h with h | h
    · rw [isNon_eq h]; simp [P.keyed, P.nk, NestedKey.depth]
    · exact Ty.keyed t x o.1 h
  | .tup ts, x, o, h => by
    cases x with
    | tup xs =>
      rw [Ty.has] at h
      rw [Ty.key] at o
      have := Ty.keyedL ts xs o h
      refine ⟨by rw [P.keyed]; exact this.1, ?_⟩
      rw [P.nk, NestedKey.depth, Ty.dep]
      have := this.2
      omega
    | _ => simp [Ty.has] at h
  | .seq t, x, o, h => by
    cases x with
    | tup xs =>
      rw [Ty.has] at h
      rw [Ty.key] at o
      have q := fun y hy => Ty.keyed t y o (all_mem h y hy)
      refine ⟨by rw [P.keyed]; exact keyedL_of fun y hy => (q y hy).1, ?_⟩
      rw [P.nk, NestedKey.depth, Ty.dep]
      have := nkd_of fun y hy => (q y hy).2
      omega
    | _ => simp [Ty.has] at h
  | .lst t, x, o, h => by simp [Ty.key] at o
theorem Ty.keyedL : ∀ (ts : List Ty) (xs : List P), Ty.keyL ts = true → Ty.hasL ts xs = true → P.keyedL xs = true ∧ NestedKey.depthAll (P.nkL xs) ≤ Ty.depL ts
  | [], [], _, _ => by simp [P.keyedL, P.nkL, NestedKey.depthAll]
  | [], _ :: _, _, h => by simp [Ty.hasL] at h
  | _ :: _, [], _, h => by simp [Ty.hasL] at h
  | t :: ts, x :: xs, o, h => by
    rw [Ty.hasL, Bool.and_eq_true] at h
    rw [Ty.keyL, Bool.and_eq_true] at o
    have h1 := Ty.keyed t x o.1 h.1
    have h2 := Ty.keyedL ts xs o.2 h.2
    refine ⟨by rw [P.keyedL, h1.1, h2.1]; rfl, ?_⟩
    rw [P.nkL, NestedKey.depthAll, Ty.depL]
    omega
end
theorem nk_some {t : Ty} {x : P} (o : t.key = true) (n1 : t.has .non = false) (h : t.has x = true) : x.nk ≠ .none := by
  cases x with
  | non => rw [h] at n1; cases n1
  | int i => intro z; simp [P.nk] at z
  | bl b => intro z; simp [P.nk] at z
  | str b => intro z; simp [P.nk] at z
  | tup xs => intro z; simp [P.nk] at z
  | _ =>
    have := (Ty.keyed t _ o h).1
    simp [P.keyed] at this
mutual
theorem Ty.nk : ∀ (t : Ty) (x y : P), t.key = true → t.has x = true → t.has y = true → x.nk = y.nk → x = y
  | .int, x, y, _, h, k, e => by
    cases x <;> first | (simp [Ty.has] at h; done) | skip
    cases y <;> first | (simp [Ty.has] at k; done) | (simp [P.nk] at e; rw [e])
  | .bl, x, y, _, h, k, e => by
    cases x <;> first | (simp [Ty.has] at h; done) | skip
    cases y <;> first | (simp [Ty.has] at k; done) | skip
    rename_i a b
    cases a <;> cases b <;> first | rfl | (simp [P.nk] at e; done)
  | .str, x, y, _, h, k, e => by
    cases x <;> first | (simp [Ty.has] at h; done) | skip
    cases y <;> first | (simp [Ty.has] at k; done) | (simp [P.nk] at e; rw [e])
  | .non, x, y, _, h, k, e => by
    cases x <;> first | (simp [Ty.has] at h; done) | skip
    cases y <;> first | (simp [Ty.has] at k; done) | rfl
  | .opt t, x, y, o, h, k, e => by
    rw [Ty.has, Bool.or_eq_true] at h k
    rw [Ty.key, Bool.and_eq_true] at o
    have n1 : t.has .non = false := by
      cases t <;> first | rfl | (simp [Ty.sure] at o; done)
    rcases h with h | h
    · have hx : x = .non := isNon_eq h
      subst hx
      rcases k with k | k
      · exact (isNon_eq k).symm
      · exact absurd (show y.nk = .none from e.symm) (nk_some o.1 n1 k)
    · rcases k with k | k
      · have hy : y = .non := isNon_eq k
        subst hy
        exact absurd (show x.nk = .none from e) (nk_some o.1 n1 h)
      · exact Ty.nk t x y o.1 h k e
  | .tup ts, x, y, o, h, k, e => by
    cases x with
    | tup xs =>
      cases y with
      | tup ys =>
        rw [Ty.has] at h k
        rw [Ty.key] at o
        rw [P.nk, P.nk] at e
        injection e with e
        rw [Ty.nkL ts xs ys o h k e]
      | _ => simp [Ty.has] at k
    | _ => simp [Ty.has] at h
  | .seq t, x, y, o, h, k, e => by
    cases x with
    | tup xs =>
      cases y with
      | tup ys =>
        rw [Ty.has] at h k
        rw [Ty.key] at o
        rw [P.nk, P.nk] at e
        injection e with e
        rw [nkL_inj (R := fun x => t.has x = true) (fun x y hx hy e => Ty.nk t x y o hx hy e) (all_mem h) (all_mem k) e]
      | _ => simp [Ty.has] at k
    | _ => simp [Ty.has] at h
  | .lst t, x, y, o, h, k, e => by simp [Ty.key] at o
theorem Ty.nkL : ∀ (ts : List Ty) (xs ys : List P), Ty.keyL ts = true → Ty.hasL ts xs = true → Ty.hasL ts ys = true → P.nkL xs = P.nkL ys → xs = ys
  | [], [], [], _, _, _, _ => rfl
  | [], _ :: _, _, _, h, _, _ => by simp [Ty.hasL] at h
  | [], [], _ :: _, _, _, h, _ => by simp [Ty.hasL] at h
  | _ :: _, [], _, _, h, _, _ => by simp [Ty.hasL] at h
  | _ :: _, _ :: _, [], _, _, h, _ => by simp [Ty.hasL] at h
  | t :: ts, x :: xs, y :: ys, o, h, k, e => by
    rw [Ty.hasL, Bool.and_eq_true] at h k
    rw [Ty.keyL, Bool.and_eq_true] at o
    rw [P.nkL, P.nkL] at e
    injection e with e1 e2
    rw [Ty.nk t x y o.1 h.1 k.1 e1, Ty.nkL ts xs ys o.2 h.2 k.2 e2]
end
/-! ### things that stand as data of one sort -/
class Enc (α : Type) where
  p : α → P
  ty : Ty
  has : ∀ a, ty.has (p a) = true
  inj : ∀ {a b}, p a = p b → a = b
  dep : ty.dep ≤ 7 := by decide
abbrev en {α : Type} [Enc α] (a : α) : P := Enc.p a
instance : Enc Int := ⟨.int, .int, fun _ => rfl, fun h => by injection h, by decide⟩
instance : Enc Bool := ⟨.bl, .bl, fun _ => rfl, fun h => by injection h, by decide⟩
instance : Enc Str := ⟨.str, .str, fun _ => rfl, fun h => by injection h, by decide⟩
section
variable {α : Type} [I : Enc α]
theorem en_plain (a : α) : (en a).plain = true := Ty.plain _ _ (Enc.has a)
theorem en_dep (a : α) : (en a).dep ≤ 7 := Nat.le_trans (Ty.dep_le _ _ (Enc.has a)) Enc.dep
theorem en_fit (a : α) : (en a).fit = true := by
  unfold P.fit
  have := en_dep a
  rw [en_plain a, Bool.true_and]
  exact decide_eq_true (by omega)
theorem en_eqv [DecidableEq α] (a b : α) : P.eqv (en a) (en b) = decide (a = b) := by
  rw [Ty.eqv _ _ _ (Enc.has a) (Enc.has b)]
  exact decide_eq_decide.mpr ⟨Enc.inj, fun h => by rw [h]⟩
theorem en_plainL (as : List α) : P.plainL (as.map Enc.p) = true := plainL_of fun x hx => by
  obtain ⟨a, _, rfl⟩ := List.mem_map.mp hx
  exact en_plain a
theorem en_depL (as : List α) : P.depL (as.map Enc.p) ≤ 7 := depL_of fun x hx => by
  obtain ⟨a, _, rfl⟩ := List.mem_map.mp hx
  exact en_dep a
theorem map_inj {as bs : List α} (h : as.map Enc.p = bs.map Enc.p) : as = bs := by
  induction as generalizing bs with
  | nil => cases bs with
    | nil => rfl
    | cons b bs => cases h
  | cons a as ih => cases bs with
    | nil => cases h
    | cons b bs =>
      rw [List.map_cons, List.map_cons] at h
      injection h with h1 h2
      rw [Enc.inj h1, ih h2]
theorem has_seq (as : List α) : (as.map (Enc.p (α := α))).all (fun x => (Enc.ty α).has x) = true := List.all_eq_true.mpr fun x hx => by
  obtain ⟨a, _, rfl⟩ := List.mem_map.mp hx
  exact Enc.has a
/-- tuples of such -/
@[reducible] def seqEnc (h : (Enc.ty α).dep < 7 := by decide) : Enc (List α) := ⟨fun as => .tup (as.map Enc.p), .seq (Enc.ty α), fun as => by rw [Ty.has]; exact has_seq as, fun e => by injection e with e; exact map_inj e, by rw [Ty.dep]; omega⟩
variable [DecidableEq α]
theorem en_eq (a b : α) : pEq (en a) (en b) = some (.bl (decide (a = b))) := by
  unfold pEq
  rw [if_pos ⟨en_fit a, en_plain b⟩, en_eqv]
theorem en_ne (a b : α) : pNe (en a) (en b) = some (.bl (!decide (a = b))) := by
  unfold pNe
  rw [if_pos ⟨en_fit a, en_plain b⟩, en_eqv]
theorem en_any (a : α) (as : List α) : ((as.map Enc.p).any fun y => P.eqv y (en a)) = decide (a ∈ as) := by
  induction as with
  | nil => simp
  | cons b bs ih =>
    rw [List.map_cons, List.any_cons, ih, en_eqv]
    by_cases h : b = a
    · subst h; simp
    · simp [h, Ne.symm h]
theorem en_inT (n : Bool) (a : α) (as : List α) : pIn n (en a) (.tup (as.map Enc.p)) = some (.bl (xor n (decide (a ∈ as)))) := by
  unfold pIn
  dsimp only
  rw [if_pos ⟨en_fit a, en_plainL as⟩, en_any]
theorem en_inL (n : Bool) (a : α) (as : List α) : pIn n (en a) (.lst (as.map Enc.p)) = some (.bl (xor n (decide (a ∈ as)))) := by
  unfold pIn
  dsimp only
  rw [if_pos ⟨en_fit a, en_plainL as⟩, en_any]
theorem en_keyed (hk : (Enc.ty α).key = true) (a : α) : (en a).keyed = true ∧ (en a).nk.depth ≤ 7 := by
  have := Ty.keyed _ _ hk (Enc.has a)
  exact ⟨this.1, Nat.le_trans this.2 Enc.dep⟩
theorem en_keyD (hk : (Enc.ty α).key = true) (a : α) : (en a).keyD = true := by
  have := en_keyed hk a
  unfold P.keyD
  rw [this.1, Bool.true_and]
  exact decide_eq_true (by omega)
theorem en_nk (hk : (Enc.ty α).key = true) {a b : α} (h : (en a).nk = (en b).nk) : a = b := Enc.inj (Ty.nk _ _ _ hk (Enc.has a) (Enc.has b) h)
theorem en_lookT (hk : (Enc.ty α).key = true) (a : α) : ∀ (as : List α) (xs : List P), as.length = xs.length → (lookT (en a).nk (as.map Enc.p) xs).isSome = decide (a ∈ as)
  | [], xs, _ => by simp [lookT]
  | b :: bs, [], h => by cases h
  | b :: bs, x :: xs, h => by
    rw [List.map_cons, lookT]
    by_cases e : b = a
    · subst e; simp
    · rw [if_neg fun z => e (en_nk hk z), en_lookT hk a bs xs (by simpa using h)]
      simp [Ne.symm e]
theorem en_inD {as' : List P} (hk : (Enc.ty α).key = true) (n : Bool) (a : α) (ht : en a = .tup as') (as : List α) (xs : List P) (hl : as.length = xs.length) : pIn n (en a) (.dT (as.map Enc.p) xs) = some (.bl (xor n (decide (a ∈ as)))) := by
  have k := en_keyD hk a
  have e := en_lookT hk a as xs hl
  rw [ht] at k e ⊢
  unfold pIn
  dsimp only
  rw [if_pos k, e]
/-! ### the order -/
variable (ho : (Enc.ty α).ord = true)
include ho
theorem en_alike (a b : α) : PySem.W.alike (en a).py (en b).py = true := Ty.alike _ _ _ ho (Enc.has a) (Enc.has b)
theorem en_alikeL (as : List α) : alikeL (as.map Enc.p) = true := by
  unfold alikeL
  rw [List.all_eq_true]
  intro x hx
  rw [List.all_eq_true]
  intro y hy
  obtain ⟨a, _, rfl⟩ := List.mem_map.mp hx
  obtain ⟨b, _, rfl⟩ := List.mem_map.mp hy
  exact en_alike ho a b
end
theorem toks_eq {a b : PyData} (h : PySem.W.alike a b = true) (e : PySem.W.keyToks a = PySem.W.keyToks b) : PyData.eqv a b = true := by
  cases q : PyData.eqv a b with
  | true => rfl
  | false =>
    have z := (PySem.W.toks_eqv a b h).2 q [] [.inl 0]
    rw [e, PyProof.Rows.lex_irrefl, PySem.W.lex_pre] at z
    exact absurd z (by decide)
theorem lt_total {a b : P} (pa : a.plain = true) (pb : b.plain = true) (h : PySem.W.alike a.py b.py = true) (h1 : PySem.W.dataLt a.py b.py = false) (h2 : PySem.W.dataLt b.py a.py = false) : P.eqv a b = true := by
  rw [← P.eqv_py a b pa pb]
  exact toks_eq h ((PyProof.Rows.listOrd PyProof.Rows.itemOrd).total _ _ h1 h2)
theorem le_tot : PySem.W.TotalLe P.le := by
  have T : PySem.W.TotalLe (PySem.W.dataLe false P.py) := PySem.W.sortLe_total _ _ _
  exact ⟨fun a b c => T.trans a b c, fun a b => T.total a b⟩
/-- the order of things -/
def eLe {α : Type} [Enc α] (a b : α) : Bool := P.le (en a) (en b)
def eLt {α : Type} [Enc α] (a b : α) : Bool := PySem.W.dataLt (en a).py (en b).py
theorem eLe_lt {α : Type} [Enc α] (a b : α) : eLe a b = !eLt b a := rfl
section
variable {α : Type} [I : Enc α]
theorem eLe_total (a b : α) : (eLe a b || eLe b a) = true := by
  rcases le_tot.total (en a) (en b) with h | h
  · unfold eLe; rw [h]; rfl
  · unfold eLe; rw [h]; simp
theorem eLe_trans (a b c : α) (h : eLe a b = true) (k : eLe b c = true) : eLe a c = true := le_tot.trans _ _ _ h k
theorem eLe_anti [DecidableEq α] (ho : (Enc.ty α).ord = true) {a b : α} (h : eLe a b = true) (k : eLe b a = true) : a = b := by
  rw [eLe_lt] at h k
  have e := lt_total (en_plain a) (en_plain b) (en_alike ho a b) (by simpa [eLt] using k) (by simpa [eLt] using h)
  rw [en_eqv] at e
  exact of_decide_eq_true e
theorem eLt_irr (a : α) : eLt a a = false := by
  unfold eLt PySem.W.dataLt
  exact PyProof.Rows.lex_irrefl _
theorem eLt_le {a b : α} (h : eLt a b = true) : eLe a b = true := by
  have := eLe_total b a
  rw [Bool.or_eq_true] at this
  rcases this with k | k
  · rw [eLe_lt, h] at k; cases k
  · exact k
theorem eLt_iff [DecidableEq α] (ho : (Enc.ty α).ord = true) {a b : α} : eLt a b = true ↔ eLe a b = true ∧ a ≠ b := by
  refine ⟨fun h => ⟨eLt_le h, fun e => by rw [e, eLt_irr] at h; cases h⟩, fun ⟨h, n⟩ => ?_⟩
  cases q : eLt a b with
  | true => rfl
  | false =>
    exact absurd (eLe_anti ho h (by rw [eLe_lt, q]; rfl)) n
/-- sorted -/
def sortZ (as : List α) : List α := as.mergeSort eLe
theorem sortZ_perm (as : List α) : (sortZ as).Perm as := List.mergeSort_perm _ _
theorem sortZ_mem {as : List α} {a : α} : a ∈ sortZ as ↔ a ∈ as := (sortZ_perm as).mem_iff
theorem sortZ_len (as : List α) : (sortZ as).length = as.length := (sortZ_perm as).length_eq
theorem sortZ_pairs (as : List α) : (sortZ as).Pairwise (fun a b => eLe a b = true) := List.pairwise_mergeSort (fun a b c h k => eLe_trans a b c h k) (fun a b => eLe_total a b) as
theorem sortZ_asc [DecidableEq α] (ho : (Enc.ty α).ord = true) {as : List α} (nd : as.Nodup) : (sortZ as).Pairwise (fun a b => eLt a b = true) := by
  have nd' : (sortZ as).Pairwise (· ≠ ·) := (sortZ_perm as).nodup_iff.mpr nd
  exact ((sortZ_pairs as).and nd').imp fun h => (eLt_iff ho).mpr h
theorem sorted_uniq [DecidableEq α] (ho : (Enc.ty α).ord = true) : ∀ {as bs : List α}, as.Perm bs → as.Pairwise (fun a b => eLe a b = true) → bs.Pairwise (fun a b => eLe a b = true) → as = bs
  | [], bs, p, _, _ => p.symm.eq_nil.symm
  | a :: as, [], p, _, _ => absurd p.eq_nil (by simp)
  | a :: as, b :: bs, p, s1, s2 => by
    have s1' := List.pairwise_cons.mp s1
    have s2' := List.pairwise_cons.mp s2
    have e : a = b := by
      have h1 : a ∈ b :: bs := p.mem_iff.mp List.mem_cons_self
      have h2 : b ∈ a :: as := p.mem_iff.mpr List.mem_cons_self
      rcases List.mem_cons.mp h1 with h1 | h1
      · exact h1
      · rcases List.mem_cons.mp h2 with h2 | h2
        · exact h2.symm
        · exact eLe_anti ho (s1'.1 b h2) (s2'.1 a h1)
    subst e
    rw [sorted_uniq ho ((List.perm_cons a).mp p) s1'.2 s2'.2]
theorem sortZ_eq [DecidableEq α] (ho : (Enc.ty α).ord = true) {as bs : List α} (h : as.Perm bs) : sortZ as = sortZ bs := sorted_uniq ho (((sortZ_perm as).trans h).trans (sortZ_perm bs).symm) (sortZ_pairs as) (sortZ_pairs bs)
theorem sortZ_id [DecidableEq α] (ho : (Enc.ty α).ord = true) {as : List α} (h : as.Pairwise (fun a b => eLe a b = true)) : sortZ as = as := sorted_uniq ho (sortZ_perm as) (sortZ_pairs as) h
theorem en_sorted [DecidableEq α] (ho : (Enc.ty α).ord = true) (hr : (∀ a : α, (en a).rows = true) ∨ ∀ a : α, (en a).item = true) (as : List α) : gSorted [.lst (as.map Enc.p)] = some ((sortZ as).map Enc.p) := by
  have e : gSorted [.lst (as.map Enc.p)] = some ((as.map Enc.p).mergeSort P.le) := by
    refine if_pos ⟨en_plainL as, en_alikeL ho as, ?_, ?_⟩
    · rcases hr with hr | hr
      · exact .inl (List.all_eq_true.mpr fun x hx => by obtain ⟨a, _, rfl⟩ := List.mem_map.mp hx; exact hr a)
      · exact .inr (List.all_eq_true.mpr fun x hx => by obtain ⟨a, _, rfl⟩ := List.mem_map.mp hx; exact hr a)
    · rw [List.all_eq_true]
      intro x hx
      obtain ⟨a, _, rfl⟩ := List.mem_map.mp hx
      have : (Enc.p a).dep ≤ 7 := en_dep a
      exact decide_eq_true (by omega)
  rw [e]
  congr 1
  exact (List.map_mergeSort (r := eLe) (s := P.le) (f := Enc.p) (l := as) fun a _ b _ => rfl).symm
theorem en_ltT [DecidableEq α] (ho : (Enc.ty α).ord = true) (a b : α) {as' bs' : List P} (ha : en a = .tup as') (hb : en b = .tup bs') : pLt (en a) (en b) = some (.bl (eLt a b)) := by
  have c : (en a).fit = true ∧ (en b).plain = true ∧ PySem.W.alike (en a).py (en b).py = true := ⟨en_fit a, en_plain b, en_alike ho a b⟩
  show _ = some (P.bl (PySem.W.dataLt (en a).py (en b).py))
  rw [ha, hb] at c ⊢
  show (pLtD _ _).map P.bl = _
  unfold pLtD
  rw [if_pos c]
  rfl
theorem en_leT [DecidableEq α] (ho : (Enc.ty α).ord = true) (a b : α) {as' bs' : List P} (ha : en a = .tup as') (hb : en b = .tup bs') : pLe (en a) (en b) = some (.bl (eLe a b)) := by
  have c : (en a).fit = true ∧ (en b).fit = true ∧ PySem.W.alike (en a).py (en b).py = true := ⟨en_fit a, en_fit b, en_alike ho a b⟩
  show _ = some (P.bl (!PySem.W.dataLt (en b).py (en a).py))
  rw [ha, hb] at c ⊢
  show (pLeD _ _).map P.bl = _
  unfold pLeD
  rw [if_pos c]
  rfl
end
end DL

set_option Elab.async false
set_option linter.all false
set_option maxRecDepth 100000
set_option maxHeartbeats 1000000
/-! Plain part b: the draws. -/
noncomputable section
namespace DL
open PySem PySem.Spec PyProof.Rows L2
/-! ### lists of whole numbers -/
def nmL (xs : List Int) : P := .lst (xs.map .int)
theorem plainL_ints : ∀ xs : List Int, P.plainL (xs.map .int) = true
  | [] => rfl
  | x :: xs => by rw [List.map_cons, P.plainL, plainL_ints xs]; rfl
theorem depL_ints : ∀ xs : List Int, P.depL (xs.map .int) = 0
  | [] => rfl
  | x :: xs => by rw [List.map_cons, P.depL, depL_ints xs]; rfl
theorem fit_ints (xs : List Int) : (nmL xs).fit = true := by simp [nmL, P.fit, P.plain, P.dep, plainL_ints, depL_ints]
@[simp] theorem ne_nil (xs : List Int) : pNe (nmL xs) (.lst []) = some (.bl (!xs.isEmpty)) := by
  unfold pNe
  rw [if_pos ⟨fit_ints xs, by simp [P.plain, P.plainL]⟩]
  cases xs <;> simp [nmL, P.eqv, P.eqvL]
@[simp] theorem eq_int (i j : Int) : pEq (.int i) (.int j) = some (.bl (decide (i = j))) := by simp [pEq, P.eqv, P.fit, P.plain, P.dep]
@[simp] theorem nmL_0 (x : Int) (xs : List Int) : pIx (nmL (x :: xs)) (.int 0) = some (.int x) := by simp [nmL, pIx, atI, ixN]
@[simp] theorem nmL_1 (x : Int) (xs : List Int) : pSl (nmL (x :: xs)) (some 1) none = some (nmL xs) := by
  have e : HT.sIx (xs.length + 1) 0 (some 1) = 1 := by
    have := HT.sIx_nat (xs.length + 1) 0 1
    simp at this
    exact this
  simp [nmL, pSl, cut, e, HT.sIx_none]
  rw [List.take_of_length_le (by simp)]
@[simp] theorem nmL_add (x : Int) (xs : List Int) (h : xs.length ≤ 10000000) : pAdd (.lst [.int x]) (nmL xs) = some (nmL (x :: xs)) := by
  unfold pAdd nmL
  simp
  omega
/-! ### the law's own state -/
structure Rnd where
  g : List Int
  s : Int
  a : Int
def kG : Key := .inr "great"
def kS : Key := .inr "seed"
def kA : Key := .inr "at"
def Rnd.d (t : Rnd) : P := .dK [kG, kS, kA] [nmL t.g, .int t.s, .int t.a]
def Rnd.mo (t : Rnd) : Option MO := some (.dK [kG, kS, kA] [nmL t.g, .int t.s, .int t.a])
/-- n more draws may be made -/
structure Rnd.Ok (n : Nat) (t : Rnd) : Prop where
  len : t.g.length ≤ 63
  pos : 0 ≤ t.a
  few : t.a + n ≤ 2 ^ 60
theorem Rnd.Ok.le {n k : Nat} {t : Rnd} (h : t.Ok n) (hk : k ≤ n) : t.Ok k := ⟨h.len, h.pos, by have := h.few; omega⟩
@[simp] theorem ix_G (t : Rnd) : pIx t.d (.str "great") = some (nmL t.g) := by
  simp (decide := true) [Rnd.d, pIx, P.ky, lookK, kG, kS, kA]
@[simp] theorem ix_S (t : Rnd) : pIx t.d (.str "seed") = some (.int t.s) := by
  simp (decide := true) [Rnd.d, pIx, P.ky, lookK, kG, kS, kA]
@[simp] theorem ix_A (t : Rnd) : pIx t.d (.str "at") = some (.int t.a) := by
  simp (decide := true) [Rnd.d, pIx, P.ky, lookK, kG, kS, kA]
@[simp] theorem seen0 (t : Rnd) : seen (some t.mo) = some t.d := id rfl
@[simp] theorem set_G (t : Rnd) (r : Mem) (g : List Int) : setM (.ref 0) (.p (.str "great")) (.p (nmL g)) (t.mo :: r) = some (({ t with g := g } : Rnd).mo :: r) := by
  simp (decide := true) [setM, setO, P.ky, Rnd.mo, putJ, putA, kG, kS, kA]
@[simp] theorem set_A (t : Rnd) (r : Mem) (a : Int) : setM (.ref 0) (.p (.str "at")) (.p (.int a)) (t.mo :: r) = some (({ t with a := a } : Rnd).mo :: r) := by
  simp (decide := true) [setM, setO, P.ky, Rnd.mo, putJ, putA, kG, kS, kA]
/-- the great ones that are spent are left -/
def Rnd.skip (t : Rnd) : Rnd := { t with g := t.g.dropWhile (· = 0) }
abbrev dC : FB := (sAndB (sB (sOp pNe (sOp pIx (sName 0) (sC (.str "great"))) (sLst sNil))) (sB (sOp pEq (sOp pIx (sOp pIx (sName 0) (sC (.str "great"))) (sC (.int 0))) (sC (.int 0)))))
abbrev dB : FS := (sSub (sSl (sOp pIx (sName 0) (sC (.str "great"))) (sPart (sC (.int 1))) sNoPart) (sName 0) (sC (.str "great")))
theorem draw_while (δ : DS) (r : Mem) : ∀ (g : List Int) (s a : Int), whileF dC dB (g.length + 1) (.ref 0 :: δ) ((⟨g, s, a⟩ : Rnd).mo :: r) = .nx (.ref 0 :: δ) ((⟨g, s, a⟩ : Rnd).skip.mo :: r)
  | [], s, a => by
    rw [whileF]
    simp [Rnd.skip]
  | x :: g, s, a => by
    rw [List.length_cons, whileF]
    by_cases hx : x = 0
    · subst hx
      have ih := draw_while δ r g s a
      simp [Rnd.skip] at ih ⊢
      exact ih
    · simp [Rnd.skip, hx]
theorem draw_while' (δ : DS) (r : Mem) (t : Rnd) : sWhile dC dB (.ref 0 :: δ) (t.mo :: r) = .nx (.ref 0 :: δ) (t.skip.mo :: r) := by
  rw [sWhile_eq (n := t.g.length + 1) (by rw [draw_while δ r t.g t.s t.a]; simp), draw_while δ r t.g t.s t.a]
@[simp] theorem pAdd_int (i j : Int) : pAdd (.int i) (.int j) = some (.int (i + j)) := id rfl
@[simp] theorem pSub_int (i j : Int) : pSub (.int i) (.int j) = some (.int (i - j)) := id rfl
@[simp] theorem pNeg_int (i : Int) : pNeg (.int i) = some (.int (-i)) := id rfl
theorem pMul_l {i j : Int} (h : -(2 ^ 64) < i ∧ i < 2 ^ 64) : pMul (.int i) (.int j) = some (.int (i * j)) := if_pos (.inl h)
theorem pMul_r {i j : Int} (h : -(2 ^ 64) < j ∧ j < 2 ^ 64) : pMul (.int i) (.int j) = some (.int (i * j)) := if_pos (.inr h)
theorem pMod_int {i j : Int} (h : 0 < j) : pMod (.int i) (.int j) = some (.int (i % j)) := if_pos h
theorem pDiv_int {i j : Int} (h : 0 < j) (h2 : j < 1073741824) : pDiv (.int i) (.int j) = some (.int (i / j)) := if_pos ⟨h, h2⟩
@[simp] theorem gInt_int (i : Int) : gInt [.int i] = some (.int i) := id rfl
/-- a number under top is drawn -/
theorem draw_ok {n : Nat} {t : Rnd} (h : t.Ok (n + 1)) {top : Int} (h0 : 0 < top) (h1 : top < 1073741824) (r : Mem) :
    ∃ (v : Int) (t' : Rnd), s__law_draw [.ref 0, .p (.int top)] (t.mo :: r) = .ok (.p (.int v)) (t'.mo :: r) ∧ 0 ≤ v ∧ v < top ∧ t'.Ok n := by
  have hl : t.skip.g.length ≤ 63 := Nat.le_trans (List.dropWhile_suffix _).length_le h.len
  have ha : t.skip.a = t.a := rfl
  unfold s__law_draw b__law_draw
  simp only [e_fnS, starts_eq, n__law_draw, List.length_cons, List.length_nil]
  simp [List.replicate_succ, draw_while']
  generalize t.skip = u at hl ha ⊢
  obtain ⟨g, s, a⟩ := u
  have h2 := h.pos
  have h3 := h.few
  have ha' : a = t.a := ha
  subst ha'
  cases g with
  | nil =>
    have m1 : ∀ j, pMul (.int 7919) (.int j) = some (.int (7919 * j)) := fun j => pMul_l (by decide)
    have m2 : ∀ j, pMul (.int 104729) (.int j) = some (.int (104729 * j)) := fun j => pMul_l (by decide)
    have m3 : ∀ i, pMul (.int i) (.int 69621) = some (.int (i * 69621)) := fun j => pMul_r (by decide)
    have m4 : ∀ i, pMul (.int i) (.int 48271) = some (.int (i * 48271)) := fun j => pMul_r (by decide)
    have m5 : ∀ j, pMul (.int 31) (.int j) = some (.int (31 * j)) := fun j => pMul_l (by decide)
    have m6 : ∀ i, pMul (.int i) (.int (t.a + 1)) = some (.int (i * (t.a + 1))) := fun i => pMul_r (by omega)
    have q1 : ∀ i, pMod (.int i) (.int 2147483629) = some (.int (i % 2147483629)) := fun i => pMod_int (by decide)
    have q2 : ∀ i, pMod (.int i) (.int 2147483587) = some (.int (i % 2147483587)) := fun i => pMod_int (by decide)
    have q3 : ∀ i, pDiv (.int i) (.int 11) = some (.int (i / 11)) := fun i => pDiv_int (by decide) (by decide)
    have q4 : ∀ i, pMod (.int i) (.int top) = some (.int (i % top)) := fun i => pMod_int h0
    simp [m1, m2, m3, m4, m5, m6, q1, q2, q3, q4]
    refine ⟨_, _, ⟨rfl, rfl⟩, Int.emod_nonneg _ (by omega), Int.emod_lt_of_pos _ h0, ⟨hl, ?_, ?_⟩⟩
    · show 0 ≤ t.a + 1
      omega
    · show t.a + 1 + (n : Int) ≤ 2 ^ 60
      omega
  | cons x g =>
    have q3 : ∀ i, pDiv (.int i) (.int top) = some (.int (i / top)) := fun i => pDiv_int h0 h1
    have q4 : ∀ i, pMod (.int i) (.int top) = some (.int (i % top)) := fun i => pMod_int h0
    have hg : g.length ≤ 10000000 := by
      have : g.length + 1 ≤ 63 := hl
      omega
    simp [q3, q4, nmL_add _ _ hg]
    refine ⟨_, _, ⟨rfl, rfl⟩, Int.emod_nonneg _ (by omega), Int.emod_lt_of_pos _ h0, ⟨by simpa using hl, h2, ?_⟩⟩
    show t.a + (n : Int) ≤ 2 ^ 60
    omega
end DL

set_option Elab.async false
set_option linter.all false
set_option maxRecDepth 100000
set_option maxHeartbeats 1000000
/-! Plain part c: drawn things: words, edges, orders. -/
noncomputable section
namespace DL
open PySem PySem.Spec PyProof.Rows L2
/-! ### one of several -/
@[simp] theorem gLen_lst (xs : List P) : gLen [.lst xs] = some (.int xs.length) := id rfl
@[simp] theorem gLen_tup (xs : List P) : gLen [.tup xs] = some (.int xs.length) := id rfl
theorem ix_lst {xs : List P} {v : Int} (h0 : 0 ≤ v) (h1 : v < xs.length) : ∃ x ∈ xs, pIx (.lst xs) (.int v) = some x := by
  have hl : v.toNat < xs.length := by omega
  refine ⟨xs[v.toNat], List.getElem_mem hl, ?_⟩
  simp [pIx, atI, ixN, h0, h1, hl]
theorem some_ok {n : Nat} {t : Rnd} (h : t.Ok (n + 1)) {xs : List P} (h0 : 0 < xs.length) (h1 : xs.length < 1073741824) (r : Mem) :
    ∃ x ∈ xs, ∃ t' : Rnd, s__law_some [.ref 0, .p (.lst xs)] (t.mo :: r) = .ok (.p x) (t'.mo :: r) ∧ t'.Ok n := by
  obtain ⟨v, t', e, v0, v1, ok⟩ := draw_ok h (top := (xs.length : Int)) (by omega) (by omega) r
  obtain ⟨x, hx, ex⟩ := ix_lst v0 v1
  refine ⟨x, hx, t', ?_, ok⟩
  unfold s__law_some b__law_some
  simp [List.replicate_succ, n__law_some, e, ex]
/-! ### the words of an edge -/
def txs (q : List Str) : P := .tup (q.map .str)
def asksT : List (List Str) := [[], [], ["over"], ["over"], ["calm"], ["unheld"], ["held"], ["rung"], ["calm", "over"], ["held", "over"], ["over", "unheld"], ["over", "rung"], ["held", "rung"]]
def deedsT : List Str := ["go", "go", "hold", "give", "hush"]
theorem asks_ok {n : Nat} {t : Rnd} (h : t.Ok (n + 1)) (r : Mem) : ∃ q ∈ asksT, ∃ t' : Rnd, s__law_asks [.ref 0] (t.mo :: r) = .ok (.p (txs q)) (t'.mo :: r) ∧ t'.Ok n := by
  obtain ⟨x, hx, t', e, ok⟩ := some_ok h (xs := asksT.map txs) (by decide) (by decide) r
  obtain ⟨q, hq, rfl⟩ := List.mem_map.mp hx
  refine ⟨q, hq, t', ?_, ok⟩
  simp [asksT, txs] at e
  unfold s__law_asks b__law_asks
  simp [List.replicate_succ, n__law_asks, mk1, pAdd, e, txs]
structure Edge where
  b : Int
  q : List Str
  w : Str
  e : Int
def Edge.p (x : Edge) : P := .tup [.int x.b, txs x.q, .str x.w, .int x.e]
structure Edge.Ok (k : Int) (x : Edge) : Prop where
  b0 : 0 ≤ x.b
  b1 : x.b < k
  e0 : 0 ≤ x.e
  e1 : x.e < k
  q : x.q ∈ asksT
  w : x.w ∈ deedsT
theorem edge_ok {n : Nat} {t : Rnd} (h : t.Ok (n + 2)) {k b e : Int} (b0 : 0 ≤ b) (b1 : b < k) (e0 : 0 ≤ e) (e1 : e < k) (r : Mem) :
    ∃ x : Edge, x.Ok k ∧ ∃ t' : Rnd, s__law_edge [.ref 0, .p (.int b), .p (.int e)] (t.mo :: r) = .ok (.p x.p) (t'.mo :: r) ∧ t'.Ok n := by
  obtain ⟨q, hq, t1, ea, ok1⟩ := asks_ok h r
  obtain ⟨x, hx, t2, es, ok2⟩ := some_ok ok1 (xs := deedsT.map .str) (by decide) (by decide) r
  obtain ⟨w, hw, rfl⟩ := List.mem_map.mp hx
  refine ⟨⟨b, q, w, e⟩, ⟨b0, b1, e0, e1, hq, hw⟩, t2, ?_, ok2⟩
  simp [deedsT] at es
  unfold s__law_edge b__law_edge
  simp [List.replicate_succ, n__law_edge, mk1, ea, es, Edge.p]
end DL

set_option Elab.async false
set_option linter.all false
set_option maxRecDepth 100000
set_option maxHeartbeats 1000000
/-! Plain part d: drawn orders. -/
noncomputable section
namespace DL
open PySem PySem.Spec PyProof.Rows L2
/-! ### lists of whole numbers that are written to -/
def nmM (xs : List Int) : Option MO := some (.lst (xs.map .int))
@[simp] theorem seen_nmM (xs : List Int) : seen (some (nmM xs)) = some (nmL xs) := id rfl
@[simp] theorem isLstV_nmL (xs : List Int) : isLstV (some (nmL xs)) = true := id rfl
@[simp] theorem gLen_nmL (xs : List Int) : gLen [nmL xs] = some (.int xs.length) := by simp [nmL, gLen]
theorem eraseIdx_mapD {α β : Type} (f : α → β) : ∀ (xs : List α) (i : Nat), (xs.map f).eraseIdx i = (xs.eraseIdx i).map f
  | [], i => by simp
  | x :: xs, 0 => rfl
  | x :: xs, i + 1 => by simp [eraseIdx_mapD f xs i]
theorem pop_nmM {m : Mem} {i : Nat} {xs : List Int} {v : Int} (h : m[i]? = some (nmM xs)) (v0 : 0 ≤ v) (v1 : v < xs.length) (hl : xs.length < 1000000) :
    onLst fPop1 (.ref i) [.p (.int v)] m = some (.int (xs[v.toNat]'(by omega)), m.set i (nmM (xs.eraseIdx v.toNat))) := by
  have hv : v.toNat < xs.length := by omega
  have e : (ixN (xs.map P.int).length v) = some v.toNat := by simp [ixN, v0, v1]
  have c : -(2 ^ 63) ≤ v ∧ v < 2 ^ 63 := by omega
  unfold onLst
  simp only [h, nmM, allP_cons, allP_nil, Option.map_some]
  unfold fPop1
  dsimp only
  rw [if_pos c, e]
  simp [hv, eraseIdx_mapD]
theorem app_nmM {m : Mem} {i : Nat} {xs : List Int} {x : Int} (h : m[i]? = some (nmM xs)) (hl : xs.length < 1000000) :
    onLst fAppend (.ref i) [.p (.int x)] m = some (.non, m.set i (nmM (xs ++ [x]))) := by
  unfold onLst
  simp only [h, nmM, allP_cons, allP_nil, Option.map_some]
  unfold fAppend
  dsimp only
  rw [if_pos (by simp; omega)]
  simp
/-! ### memory with two objects of one's own -/
section
variable {a : Option MO} {r : Mem} {x y z : Option MO}
@[simp] theorem m2_at0 : (a :: (r ++ [x, y]))[r.length + 1]? = some x := by simp
@[simp] theorem m2_at1 : (a :: (r ++ [x, y]))[r.length + 2]? = some y := by simp
@[simp] theorem m2_set0 : (a :: (r ++ [x, y])).set (r.length + 1) z = a :: (r ++ [z, y]) := by simp
@[simp] theorem m2_set1 : (a :: (r ++ [x, y])).set (r.length + 2) z = a :: (r ++ [x, z]) := by simp
end
abbrev oC : FB := (sB (sOp pNe (sName 2) (sLst sNil)))
abbrev oB : FS := (sDrop (sMt (onLst fAppend) (sName 3) (sCons (sMt (onLst fPop1) (sName 2) (sCons (sFn s__law_draw (sCons (sName 0) (sCons (sCall gLen (sCons (sName 2) sNil)) sNil))) sNil)) sNil)))
theorem perm_erase {xs : List Int} {k : Nat} (h : k < xs.length) : (xs[k] :: xs.eraseIdx k).Perm xs := by
  induction xs generalizing k with
  | nil => simp at h
  | cons x xs ih =>
    cases k with
    | zero => simp
    | succ k =>
      simp only [List.getElem_cons_succ, List.eraseIdx_cons_succ]
      exact (List.Perm.swap _ _ _).trans ((ih (by simpa using h)).cons _)
theorem order_while {n : Nat} (r : Mem) (many : D) : ∀ (k : Nat) (xs ys : List Int) (t : Rnd), xs.length = k → t.Ok (n + k) → xs.length + ys.length < 1000 →
    ∃ (zs : List Int) (t' : Rnd), whileF oC oB (k + 1) [.ref 0, many, .ref (r.length + 1), .ref (r.length + 2)] (t.mo :: (r ++ [nmM xs, nmM ys])) = .nx [.ref 0, many, .ref (r.length + 1), .ref (r.length + 2)] (t'.mo :: (r ++ [nmM [], nmM (ys ++ zs)])) ∧ zs.Perm xs ∧ t'.Ok n
  | 0, xs, ys, t, hk, ok, hl => by
    have hx : xs = [] := List.eq_nil_of_length_eq_zero hk
    subst hx
    refine ⟨[], t, ?_, .refl _, ok⟩
    rw [whileF]
    simp
  | k + 1, xs, ys, t, hk, ok, hl => by
    have hne : xs.isEmpty = false := by cases xs with
      | nil => simp at hk
      | cons x xs => rfl
    obtain ⟨v, t1, e, v0, v1, ok1⟩ := draw_ok (n := n + k) (t := t) ok (top := (xs.length : Int)) (by omega) (by omega) (r ++ [nmM xs, nmM ys])
    have hv : v.toNat < xs.length := by omega
    have e1 : onLst fPop1 (.ref (r.length + 1)) [.p (.int v)] (t1.mo :: (r ++ [nmM xs, nmM ys])) = some (.int (xs[v.toNat]'hv), t1.mo :: (r ++ [nmM (xs.eraseIdx v.toNat), nmM ys])) := by
      rw [pop_nmM m2_at0 v0 v1 (by omega), m2_set0]
    have e2 : onLst fAppend (.ref (r.length + 2)) [.p (.int (xs[v.toNat]'hv))] (t1.mo :: (r ++ [nmM (xs.eraseIdx v.toNat), nmM ys])) = some (.non, t1.mo :: (r ++ [nmM (xs.eraseIdx v.toNat), nmM (ys ++ [xs[v.toNat]])])) := by
      rw [app_nmM m2_at1 (by omega), m2_set1]
    have hl' : (xs.eraseIdx v.toNat).length = k := by rw [List.length_eraseIdx, if_pos hv]; omega
    obtain ⟨zs, t', e3, pz, ok'⟩ := order_while r many k (xs.eraseIdx v.toNat) (ys ++ [xs[v.toNat]]) t1 hl' ok1 (by rw [hl']; simp; omega)
    refine ⟨xs[v.toNat] :: zs, t', ?_, (pz.cons _).trans (perm_erase hv), ok'⟩
    rw [whileF]
    simp only [oC, oB] at e3 ⊢
    simp [hne, e, e1, e2]
    rw [e3]
    simp
theorem rgOk_nat {k : Nat} (hk : k < 100) : rgOk (0, (k : Int)) = true := by
  unfold rgOk
  refine decide_eq_true ⟨?_, ?_, ?_, ?_, ?_⟩
  · show -(2 ^ 62) ≤ (0 : Int)
    decide
  · show (0 : Int) < 2 ^ 62
    decide
  · show -(2 ^ 62) ≤ (k : Int)
    omega
  · show (k : Int) < 2 ^ 62
    omega
  · show ((k : Int) - 0).toNat ≤ 16777216
    omega
/-- 0, 1, .. -/
def numsTo (k : Nat) : List Int := (List.range k).map fun (i : Nat) => (i : Int)
theorem numsTo_len (k : Nat) : (numsTo k).length = k := by simp [numsTo]
theorem r1_int {fa : FE} {δ : DS} {m m' : Mem} {k : Int} (h : fa δ m = .ok (.p (.int k)) m') : sR1 fa δ m = .ok (0, k) m' := by
  rw [e_R1, h]
  rfl
theorem listRM_of {fr : DS → Mem → ER (Int × Int)} {δ : DS} {m m' : Mem} {k : Int} {l : List P} (h : fr δ m = .ok (0, k) m') (e : rgL (0, k) = some l) : sListRM fr δ m = .ok (.ref m'.length) (m' ++ [some (.lst l)]) := by
  rw [e_listRM, h, ER.bind_ok, e]
  rfl
theorem listRM_nat {fa : FE} {δ : DS} {m m' : Mem} {k : Nat} (hk : k < 100) (h : fa δ m = .ok (.p (.int k)) m') : sListRM (sR1 fa) δ m = .ok (.ref m'.length) (m' ++ [nmM (numsTo k)]) := by
  have hu : upFrom 0 k = (numsTo k).map P.int := by simp [upFrom, numsTo]
  have er : rgL (0, (k : Int)) = some (upFrom 0 k) := (rgL_ok (rgOk_nat hk)).trans (by simp)
  rw [listRM_of (r1_int h) er, hu]
  rfl
theorem order_ok {n : Nat} {t : Rnd} {k : Nat} (h : t.Ok (n + k)) (hk : k < 100) (r : Mem) :
    ∃ (zs : List Int) (t' : Rnd), s__law_order [.ref 0, .p (.int k)] (t.mo :: r) = .ok (.p (nmL zs)) (t'.mo :: r) ∧ zs.Perm (numsTo k) ∧ t'.Ok n := by
  obtain ⟨zs, t', e, pz, ok⟩ := order_while r (.p (.int k)) k (numsTo k) [] t (numsTo_len k) h (by rw [numsTo_len]; simp; omega)
  refine ⟨zs, t', ?_, pz, ok⟩
  have ew : sWhile oC oB [.ref 0, .p (.int k), .ref (r.length + 1), .ref (r.length + 2)] (t.mo :: (r ++ [nmM (numsTo k), nmM []])) = .nx [.ref 0, .p (.int k), .ref (r.length + 1), .ref (r.length + 2)] (t'.mo :: (r ++ [nmM [], nmM ([] ++ zs)])) := by
    rw [sWhile_eq (n := k + 1) (by rw [e]; simp), e]
  have eR : sListRM (sR1 (sName 1)) [.ref 0, .p (.int k), .und, .und] (t.mo :: r) = .ok (.ref (r.length + 1)) (t.mo :: (r ++ [nmM (numsTo k)])) := listRM_nat hk (show sName 1 [.ref 0, .p (.int k), .und, .und] (t.mo :: r) = .ok (.p (.int k)) (t.mo :: r) from rfl)
  unfold s__law_order b__law_order
  simp only [oC, oB] at ew
  simp [List.replicate_succ, n__law_order, eR]
  have e2 : List.length r + 1 + 1 = List.length r + 2 := rfl
  have e3 : (some (.lst []) : Option MO) = nmM [] := rfl
  rw [e2, e3, ew]
  have e4 : fzO (some (nmM zs)) = some (nmL zs) := rfl
  simp [fzD, e4]
end DL

set_option Elab.async false
set_option linter.all false
set_option maxRecDepth 100000
set_option maxHeartbeats 1000000
/-! Plain part e: edges as data, their order. -/
noncomputable section
namespace DL
open PySem PySem.Spec PyProof.Rows L2
/-! ### rows of texts -/
theorem plainL_txs : ∀ q : List Str, P.plainL (q.map .str) = true
  | [] => rfl
  | x :: q => by rw [List.map_cons, P.plainL, plainL_txs q]; rfl
theorem depL_txs : ∀ q : List Str, P.depL (q.map .str) = 0
  | [] => rfl
  | x :: q => by rw [List.map_cons, P.depL, depL_txs q]; rfl
theorem keyedL_txs : ∀ q : List Str, P.keyedL (q.map .str) = true
  | [] => rfl
  | x :: q => by rw [List.map_cons, P.keyedL, keyedL_txs q]; rfl
theorem alike_txs : ∀ q q' : List Str, PySem.W.alikeAll (P.pyL (q.map .str)) (P.pyL (q'.map .str)) = true
  | [], q' => by simp [P.pyL, PySem.W.alikeAll]
  | x :: q, [] => by simp [P.pyL, PySem.W.alikeAll]
  | x :: q, y :: q' => by
    rw [List.map_cons, List.map_cons, P.pyL, P.pyL, PySem.W.alikeAll, alike_txs q q']
    simp [P.py, PySem.W.alike]
theorem eqvL_txs : ∀ {q q' : List Str}, P.eqvL (q.map .str) (q'.map .str) = true → q = q'
  | [], [], _ => rfl
  | [], y :: q', h => by simp [P.eqvL] at h
  | x :: q, [], h => by simp [P.eqvL] at h
  | x :: q, y :: q', h => by
    rw [List.map_cons, List.map_cons, P.eqvL, Bool.and_eq_true] at h
    have h1 : x = y := by simpa [P.eqv] using h.1
    rw [h1, eqvL_txs h.2]
theorem nkL_txs : ∀ {q q' : List Str}, P.nkL (q.map .str) = P.nkL (q'.map .str) → q = q'
  | [], [], _ => rfl
  | [], y :: q', h => by simp [P.nkL] at h
  | x :: q, [], h => by simp [P.nkL] at h
  | x :: q, y :: q', h => by
    rw [List.map_cons, List.map_cons, P.nkL, P.nkL] at h
    injection h with h1 h2
    have h3 : x = y := by simpa [P.nk] using h1
    rw [h3, nkL_txs h2]
theorem nkd_txs : ∀ q : List Str, NestedKey.depthAll (P.nkL (q.map .str)) = 0
  | [] => by simp [P.nkL, NestedKey.depthAll]
  | x :: q => by
    rw [List.map_cons, P.nkL, NestedKey.depthAll, nkd_txs q]
    simp [P.nk, NestedKey.depth]
/-! ### edges -/
namespace Edge
variable {x y : Edge}
theorem plain (x : Edge) : x.p.plain = true := by simp [Edge.p, txs, P.plain, P.plainL, plainL_txs]
theorem dep (x : Edge) : x.p.dep = 2 := by simp [Edge.p, txs, P.dep, P.depL, depL_txs]
theorem fit (x : Edge) : x.p.fit = true := by simp [P.fit, plain, dep]
theorem alike (x y : Edge) : PySem.W.alike x.p.py y.p.py = true := by
  simp [Edge.p, txs, P.py, P.pyL, PySem.W.alike, PySem.W.alikeAll, alike_txs]
theorem eqv (h : P.eqv x.p y.p = true) : x = y := by
  obtain ⟨b, q, w, e⟩ := x
  obtain ⟨b', q', w', e'⟩ := y
  simp only [Edge.p, txs, P.eqv, P.eqvL, Bool.and_eq_true, decide_eq_true_eq] at h
  obtain ⟨h1, h2, h3, h4, _⟩ := h
  rw [h1, eqvL_txs h2, h3, h4]
theorem nk (h : x.p.nk = y.p.nk) : x = y := by
  obtain ⟨b, q, w, e⟩ := x
  obtain ⟨b', q', w', e'⟩ := y
  simp only [Edge.p, txs, P.nk, P.nkL, NestedKey.tup.injEq, List.cons.injEq, NestedKey.num.injEq, NestedKey.text.injEq] at h
  obtain ⟨h1, h2, h3, h4, _⟩ := h
  rw [h1, nkL_txs h2, h3, h4]
theorem keyD (x : Edge) : x.p.keyD = true := by
  simp [P.keyD, Edge.p, txs, P.keyed, P.keyedL, keyedL_txs, P.nk, P.nkL, NestedKey.depth, NestedKey.depthAll, nkd_txs]
end Edge
theorem sort_pairs (xs : List P) : (xs.mergeSort P.le).Pairwise (fun a b => P.le a b = true) := List.pairwise_mergeSort (fun a b c => le_tot.trans a b c) (fun a b => by
  rcases le_tot.total a b with h | h
  · rw [h]; rfl
  · rw [h]; simp) xs
end DL

set_option Elab.async false
set_option linter.all false
set_option maxRecDepth 100000
set_option maxHeartbeats 2000000
/-! Plain part f: drawn books. -/
noncomputable section
namespace DL
open PySem PySem.Spec PyProof.Rows L2
/-! ### edges gathered in a dict -/
def edM (es : List Edge) : Option MO := some (.dT (es.map Edge.p) (es.map fun _ => P.bl true))
def hasE (es : List Edge) (x : Edge) : Bool := es.any fun y => decide (y.p.nk = x.p.nk)
def addE (es : List Edge) (x : Edge) : List Edge := if hasE es x = true then es else es ++ [x]
theorem hasE_iff {es : List Edge} {x : Edge} : hasE es x = true ↔ x ∈ es := by
  unfold hasE
  rw [List.any_eq_true]
  constructor
  · rintro ⟨y, hy, e⟩
    rw [← Edge.nk (of_decide_eq_true e)]
    exact hy
  · intro h
    exact ⟨x, h, decide_eq_true rfl⟩
theorem addE_len (es : List Edge) (x : Edge) : (addE es x).length ≤ es.length + 1 := by
  unfold addE
  split
  · omega
  · simp
theorem addE_nodup {es : List Edge} {x : Edge} (h : es.Nodup) : (addE es x).Nodup := by
  unfold addE
  split
  · exact h
  · rename_i q
    rw [hasE_iff] at q
    rw [List.nodup_append]
    refine ⟨h, by simp, fun a ha b hb e => ?_⟩
    have : b = x := by simpa using hb
    rw [e, this] at ha
    exact q ha
theorem addE_mem {es : List Edge} {x y : Edge} (h : y ∈ addE es x) : y ∈ es ∨ y = x := by
  unfold addE at h
  split at h
  · exact .inl h
  · rcases List.mem_append.mp h with h | h
    · exact .inl h
    · exact .inr (by simpa using h)
theorem nkL_mapE : ∀ es : List Edge, P.nkL (es.map Edge.p) = es.map fun y => y.p.nk
  | [] => by simp [P.nkL]
  | x :: es => by rw [List.map_cons, P.nkL, nkL_mapE es, List.map_cons]
theorem zip_true {k : NestedKey} : ∀ es : List Edge, List.zipWith (fun (j : NestedKey) (x : P) => if j = k then P.bl true else x) (es.map fun y => y.p.nk) (es.map fun _ => P.bl true) = es.map fun _ => P.bl true
  | [] => rfl
  | x :: es => by
    rw [List.map_cons, List.map_cons, List.zipWith_cons_cons, zip_true es]
    congr 1
    split <;> rfl
theorem set_edM {m : Mem} {i : Nat} {es : List Edge} {x : Edge} (h : m[i]? = some (edM es)) (hl : es.length < 1000) :
    setM (.ref i) (.p x.p) (.p (.bl true)) m = some (m.set i (edM (addE es x))) := by
  have ea : ((P.nkL (es.map Edge.p)).any fun j => decide (j = x.p.nk)) = hasE es x := by
    rw [nkL_mapE, List.any_map]; rfl
  have kd : x.p.keyD = true := x.keyD
  have hl2 : (es.map Edge.p).length < 16777216 := by rw [List.length_map]; omega
  have key : setO (.dT (es.map Edge.p) (es.map fun _ => P.bl true)) x.p (.bl true) = some (.dT ((addE es x).map Edge.p) ((addE es x).map fun _ => P.bl true)) := by
    have e0 : setO (.dT (es.map Edge.p) (es.map fun _ => P.bl true)) x.p (.bl true) = if x.p.keyD = true ∧ (es.map Edge.p).length < 16777216 then some (.dT (if ((P.nkL (es.map Edge.p)).any fun j => decide (j = x.p.nk)) = true then es.map Edge.p else es.map Edge.p ++ [x.p]) (putA (P.nkL (es.map Edge.p)) (es.map fun _ => P.bl true) x.p.nk (.bl true))) else none := rfl
    rw [e0, if_pos ⟨kd, hl2⟩, ea]
    unfold putA addE
    rw [ea]
    cases hasE es x with
    | true => rw [if_pos rfl, if_pos rfl, if_pos rfl, nkL_mapE, zip_true]
    | false => rw [if_neg (by decide), if_neg (by decide), if_neg (by decide)]; simp
  show (match m[i]? with
    | some (some o) => (setO o x.p (.bl true)).map fun o' => m.set i (some o')
    | _ => none) = _
  rw [h]
  show (setO (.dT (es.map Edge.p) (es.map fun _ => P.bl true)) x.p (.bl true)).map _ = _
  rw [key]
  rfl
section
variable {a : Option MO} {r : Mem} {x y z : Option MO}
@[simp] theorem m1_at0 : (a :: (r ++ [x]))[r.length + 1]? = some x := by simp
@[simp] theorem m1_set0 : (a :: (r ++ [x])).set (r.length + 1) z = a :: (r ++ [z]) := by simp
end
theorem upFrom_nums (k : Nat) : upFrom 0 k = (numsTo k).map P.int := by simp [upFrom, numsTo]
theorem mem_numsTo {k : Nat} {x : Int} (h : x ∈ numsTo k) : 0 ≤ x ∧ x < k := by
  obtain ⟨i, hi, rfl⟩ := List.mem_map.mp h
  have := List.mem_range.mp hi
  exact ⟨by omega, by omega⟩
abbrev kB1 : FS := (sSub (sC (.bl true)) (sName 8) (sFn s__law_edge (sCons (sName 0) (sCons (sName 3) (sCons (sOp pAdd (sName 3) (sC (.int 1))) sNil)))))
theorem book1 {n : Nat} (r : Mem) (d1 d2 d4 d5 d6 d7 d9 : D) {k : Int} : ∀ (xs : List Int) (es : List Edge) (t : Rnd) (d3 : D), (∀ x ∈ xs, 0 ≤ x ∧ x + 1 < k) → t.Ok (n + 2 * xs.length) → es.length + xs.length < 500 → es.Nodup → (∀ e ∈ es, e.Ok k) →
    ∃ (es' : List Edge) (t' : Rnd) (d3' : D), forL (gN 3) kB1 (fun _ => true) (xs.map P.int) [.ref 0, d1, d2, d3, d4, d5, d6, d7, .ref (r.length + 1), d9] (t.mo :: (r ++ [edM es])) = .nx [.ref 0, d1, d2, d3', d4, d5, d6, d7, .ref (r.length + 1), d9] (t'.mo :: (r ++ [edM es'])) ∧
      es'.Nodup ∧ (∀ e ∈ es', e.Ok k) ∧ es'.length ≤ es.length + xs.length ∧ t'.Ok n
  | [], es, t, d3, hx, ok, hl, nd, he => ⟨es, t, d3, by simp [forL], nd, he, by simp, ok⟩
  | x :: xs, es, t, d3, hx, ok, hl, nd, he => by
    have h0 := hx x List.mem_cons_self
    rw [List.length_cons] at hl
    obtain ⟨e, eo, t1, ee, ok1⟩ := edge_ok (n := n + 2 * xs.length) (t := t) (ok.le (by rw [List.length_cons]; omega)) (k := k) (b := x) (e := x + 1) h0.1 (by omega) (by omega) h0.2 (r ++ [edM es])
    have es1 : setM (.ref (r.length + 1)) (.p e.p) (.p (.bl true)) (t1.mo :: (r ++ [edM es])) = some (t1.mo :: (r ++ [edM (addE es e)])) := by
      rw [set_edM m1_at0 (by omega), m1_set0]
    have al := addE_len es e
    obtain ⟨es', t', d3', ef, nd', he', hl', ok'⟩ := book1 r d1 d2 d4 d5 d6 d7 d9 xs (addE es e) t1 (.p (.int x)) (fun y hy => hx y (List.mem_cons_of_mem _ hy)) ok1 (by omega) (addE_nodup nd) (fun y hy => by
      rcases addE_mem hy with q | q
      · exact he y q
      · rw [q]; exact eo)
    refine ⟨es', t', d3', ?_, nd', he', by rw [List.length_cons]; omega, ok'⟩
    rw [List.map_cons, forL]
    simp [ee, es1, ef]
abbrev kB2 : FS := (sSub (sC (.bl true)) (sName 8) (sFn s__law_edge (sCons (sName 0) (sCons (sFn s__law_draw (sCons (sName 0) (sCons (sName 7) sNil))) (sCons (sFn s__law_draw (sCons (sName 0) (sCons (sName 7) sNil))) sNil)))))
theorem book2 {n : Nat} (r : Mem) (d1 d2 d3 d5 d6 d9 : D) {k : Int} (k0 : 0 < k) (k1 : k < 1000) : ∀ (xs : List Int) (es : List Edge) (t : Rnd) (d4 : D), t.Ok (n + 4 * xs.length) → es.length + xs.length < 500 → es.Nodup → (∀ e ∈ es, e.Ok k) →
    ∃ (es' : List Edge) (t' : Rnd) (d4' : D), forL (gN 4) kB2 (fun _ => true) (xs.map P.int) [.ref 0, d1, d2, d3, d4, d5, d6, .p (.int k), .ref (r.length + 1), d9] (t.mo :: (r ++ [edM es])) = .nx [.ref 0, d1, d2, d3, d4', d5, d6, .p (.int k), .ref (r.length + 1), d9] (t'.mo :: (r ++ [edM es'])) ∧
      es'.Nodup ∧ (∀ e ∈ es', e.Ok k) ∧ es'.length ≤ es.length + xs.length ∧ t'.Ok n
  | [], es, t, d4, ok, hl, nd, he => ⟨es, t, d4, by simp [forL], nd, he, by simp, ok⟩
  | x :: xs, es, t, d4, ok, hl, nd, he => by
    rw [List.length_cons] at hl
    obtain ⟨v, t1, e1, v0, v1, ok1⟩ := draw_ok (n := n + 4 * xs.length + 3) (t := t) (ok.le (by rw [List.length_cons]; omega)) k0 (by omega) (r ++ [edM es])
    obtain ⟨u, t2, e2, u0, u1, ok2⟩ := draw_ok (n := n + 4 * xs.length + 2) (t := t1) ok1 k0 (by omega) (r ++ [edM es])
    obtain ⟨e, eo, t3, ee, ok3⟩ := edge_ok (n := n + 4 * xs.length) (t := t2) ok2 (k := k) (b := v) (e := u) v0 v1 u0 u1 (r ++ [edM es])
    have es1 : setM (.ref (r.length + 1)) (.p e.p) (.p (.bl true)) (t3.mo :: (r ++ [edM es])) = some (t3.mo :: (r ++ [edM (addE es e)])) := by
      rw [set_edM m1_at0 (by omega), m1_set0]
    have al := addE_len es e
    obtain ⟨es', t', d4', ef, nd', he', hl', ok'⟩ := book2 r d1 d2 d3 d5 d6 d9 k0 k1 xs (addE es e) t3 (.p (.int x)) ok3 (by omega) (addE_nodup nd) (fun y hy => by
      rcases addE_mem hy with q | q
      · exact he y q
      · rw [q]; exact eo)
    refine ⟨es', t', d4', ?_, nd', he', by rw [List.length_cons]; omega, ok'⟩
    rw [List.map_cons, forL]
    simp [e1, e2, ee, es1, ef]
end DL

set_option Elab.async false
set_option linter.all false
set_option maxRecDepth 100000
set_option maxHeartbeats 2000000
/-! Plain part g: drawn books, drawn houses. -/
noncomputable section
namespace DL
open PySem PySem.Spec PyProof.Rows L2
/-- some of several are picked -/
theorem pick_ok {n : Nat} {r : Mem} {δ : DS} {i : Nat} {ft : FB} (hi : i < δ.length) (hft : ∀ (x : P) (n : Nat) (t : Rnd), t.Ok (n + 1) → ∃ (b : Bool) (t' : Rnd), ft (δ.set i (.p x)) (t.mo :: r) = .ok b (t'.mo :: r) ∧ t'.Ok n) :
    ∀ (xs : List P) (t : Rnd), t.Ok (n + xs.length) → ∃ (ys : List P) (t' : Rnd), compL (gN i) ft (elt (sName i)) (fun _ => true) δ xs (t.mo :: r) = .ok ys (t'.mo :: r) ∧ ys.Sublist xs ∧ t'.Ok n
  | [], t, ok => ⟨[], t, rfl, .slnil, ok⟩
  | x :: xs, t, ok => by
    obtain ⟨b, t1, e1, ok1⟩ := hft x (n + xs.length) t ok
    obtain ⟨ys, t2, e2, sb, ok2⟩ := pick_ok hi hft xs t1 ok1
    have eg : gN i (.p x) δ = some (δ.set i (.p x)) := by simp [hi]
    cases b with
    | false =>
      refine ⟨ys, t2, ?_, sb.cons _, ok2⟩
      rw [compL, if_pos rfl, eg]
      simp [e1, e2]
    | true =>
      refine ⟨x :: ys, t2, ?_, sb.cons₂ _, ok2⟩
      have ee : elt (sName i) (δ.set i (.p x)) (t1.mo :: r) = .ok [x] (t1.mo :: r) := elt_ok (by simp [hi])
      rw [compL, if_pos rfl, eg]
      simp [e1, e2, ee]
theorem sub_map {α β : Type} {f : α → β} {xs : List α} {ys : List β} (h : ys.Sublist (xs.map f)) : ∃ zs : List α, ys = zs.map f ∧ zs.Sublist xs := by
  obtain ⟨zs, h1, h2⟩ := List.sublist_map_iff.mp h
  exact ⟨zs, h2, h1⟩
/-- the numbers from lo -/
def numsFrom (lo : Int) (k : Nat) : List Int := (List.range k).map fun (i : Nat) => lo + (i : Int)
theorem upFrom_from (lo : Int) (k : Nat) : upFrom lo k = (numsFrom lo k).map P.int := by simp [upFrom, numsFrom]
theorem from_asc (lo : Int) (k : Nat) : (numsFrom lo k).Pairwise (· < ·) := by
  unfold numsFrom
  rw [List.pairwise_map]
  exact (List.pairwise_lt_range (n := k)).imp fun h => by omega
theorem mem_from {lo : Int} {k : Nat} {x : Int} (h : x ∈ numsFrom lo k) : lo ≤ x ∧ x < lo + k := by
  obtain ⟨i, hi, rfl⟩ := List.mem_map.mp h
  have := List.mem_range.mp hi
  exact ⟨by omega, by omega⟩
/-! ### sorted edges -/
theorem plainL_mapE : ∀ es : List Edge, P.plainL (es.map Edge.p) = true
  | [] => rfl
  | x :: es => by rw [List.map_cons, P.plainL, plainL_mapE es, x.plain]; rfl
theorem depL_mapE : ∀ es : List Edge, P.depL (es.map Edge.p) ≤ 2
  | [] => by simp [P.depL]
  | x :: es => by
    have := depL_mapE es
    rw [List.map_cons, P.depL, x.dep]
    omega
theorem alike_mapE (es : List Edge) : alikeL (es.map Edge.p) = true := by
  unfold alikeL
  rw [List.all_eq_true]
  intro a ha
  rw [List.all_eq_true]
  intro b hb
  obtain ⟨x, _, rfl⟩ := List.mem_map.mp ha
  obtain ⟨y, _, rfl⟩ := List.mem_map.mp hb
  exact x.alike y
def Edge.le (x y : Edge) : Bool := P.le x.p y.p
def Edge.lt (x y : Edge) : Prop := PySem.W.dataLt x.p.py y.p.py = true
def sortE (es : List Edge) : List Edge := es.mergeSort Edge.le
theorem sorted_mapE (es : List Edge) : gSorted [.lst (es.map Edge.p)] = some ((sortE es).map Edge.p) := by
  have c : P.plainL (es.map Edge.p) = true ∧ alikeL (es.map Edge.p) = true ∧ ((es.map Edge.p).all P.rows = true ∨ (es.map Edge.p).all P.item = true) ∧ ((es.map Edge.p).all fun x => decide (x.dep ≤ 100)) = true := by
    refine ⟨plainL_mapE es, alike_mapE es, .inl ?_, ?_⟩
    · rw [List.all_eq_true]
      intro a ha
      obtain ⟨x, _, rfl⟩ := List.mem_map.mp ha
      rfl
    · rw [List.all_eq_true]
      intro a ha
      obtain ⟨x, _, rfl⟩ := List.mem_map.mp ha
      rw [x.dep]
      decide
  have e : gSorted [.lst (es.map Edge.p)] = some ((es.map Edge.p).mergeSort P.le) := if_pos c
  rw [e]
  congr 1
  exact (List.map_mergeSort (r := Edge.le) (s := P.le) (f := Edge.p) (l := es) fun a _ b _ => rfl).symm
theorem sortE_perm (es : List Edge) : (sortE es).Perm es := List.mergeSort_perm _ _
theorem sortE_asc {es : List Edge} (nd : es.Nodup) : (sortE es).Pairwise Edge.lt := by
  have nd' : (sortE es).Pairwise (· ≠ ·) := (sortE_perm es).nodup_iff.mpr nd
  have so : (sortE es).Pairwise (fun a b => Edge.le a b = true) := List.pairwise_mergeSort (fun a b c => le_tot.trans a.p b.p c.p) (fun a b => by
    show (P.le a.p b.p || P.le b.p a.p) = true
    rcases le_tot.total a.p b.p with h | h
    · rw [h]; rfl
    · rw [h]; simp) es
  refine (so.and nd').imp fun {a b} ⟨h1, h2⟩ => ?_
  have h3 : PySem.W.dataLt b.p.py a.p.py = false := by
    have h1' : (!PySem.W.dataLt b.p.py a.p.py) = true := h1
    simpa using h1'
  cases q : PySem.W.dataLt a.p.py b.p.py with
  | true => exact q
  | false => exact absurd (Edge.eqv (lt_total a.plain b.plain (a.alike b) q h3)) h2
/-! ### books -/
def numsT (xs : List Int) : P := .tup (xs.map .int)
structure Book where
  n : Int
  up : List Int
  deaf : List Int
  es : List Edge
def Book.p (x : Book) : P := .tup [.int x.n, numsT x.up, numsT x.deaf, .tup (x.es.map Edge.p)]
structure Book.Ok (k : Nat) (x : Book) : Prop where
  n1 : 1 ≤ x.n
  n2 : x.n ≤ k
  up : x.up.Pairwise (· < ·)
  upI : ∀ i ∈ x.up, 1 ≤ i ∧ i < x.n
  deaf : x.deaf.Pairwise (· < ·)
  deafI : ∀ i ∈ x.deaf, 0 ≤ i ∧ i < x.n
  es : x.es.Pairwise Edge.lt
  esI : ∀ e ∈ x.es, e.Ok x.n
theorem mkL_ok {xs : List P} {m : Mem} (h : xs.length ≤ 1000) : mkL xs m = .ok (.p (.lst xs)) m := mkL_le (by omega)
theorem rg1_ok {j : Int} (h0 : 0 ≤ j) (h1 : j < 1000) : rg1 [.p (.int j)] = some j := if_pos (by omega)
theorem rg2_ok {i j : Int} (h0 : 0 ≤ i) (h1 : i < 1000) (h2 : 0 ≤ j) (h3 : j < 1000) : rg2 [.p (.int i), .p (.int j)] = some (i, j) := if_pos (by omega)
def edD (es : List Edge) : P := .dT (es.map Edge.p) (es.map fun _ => P.bl true)
@[simp] theorem seen_edM (es : List Edge) : seen (some (edM es)) = some (edD es) := id rfl
@[simp] theorem gList_edD (es : List Edge) : gList [edD es] = some (es.map Edge.p) := id rfl
abbrev upT : FB := (sB (sOp pEq (sFn s__law_draw (sCons (sName 0) (sCons (sC (.int 2)) sNil))) (sC (.int 0))))
abbrev deafT : FB := (sB (sOp pEq (sFn s__law_draw (sCons (sName 0) (sCons (sC (.int 4)) sNil))) (sC (.int 0))))
theorem toss_ok {r : Mem} {δ : DS} {k : Int} (k0 : 0 < k) (k1 : k < 1000) (h0 : δ[0]? = some (.ref 0)) (n : Nat) (t : Rnd) (ok : t.Ok (n + 1)) :
    ∃ (b : Bool) (t' : Rnd), (sB (sOp pEq (sFn s__law_draw (sCons (sName 0) (sCons (sC (.int k)) sNil))) (sC (.int 0)))) δ (t.mo :: r) = .ok b (t'.mo :: r) ∧ t'.Ok n := by
  obtain ⟨v, t', e, _, _, ok'⟩ := draw_ok ok k0 (by omega) r
  exact ⟨decide (v = 0), t', by simp [h0, e], ok'⟩
theorem gTuple_lst (xs : List P) : gTuple [.lst xs] = some (.tup xs) := rfl
theorem it1_nat {fr : FA} {δ : DS} {m m' : Mem} {x : Int} {k : Nat} (h : fr δ m = .ok [.p (.int x)] m') (hx : x = (k : Int)) (hk : k < 1000) : sIt1 fr δ m = .ok ⟨(numsTo k).map P.int, fun _ => true⟩ m' := by
  have g : rg1 [.p (.int x)] = some x := rg1_ok (by omega) (by omega)
  rw [e_It1, h]
  show itR ((rg1 [.p (.int x)]).map fun j => (⟨upFrom 0 j.toNat, fun _ => true⟩ : Itm)) m' = _
  rw [g]
  have : x.toNat = k := by omega
  show ER.ok (⟨upFrom 0 x.toNat, fun _ => true⟩ : Itm) _ = _
  rw [this, upFrom_nums]
theorem it2_nat {fr : FA} {δ : DS} {m m' : Mem} {x y : Int} {k : Nat} (h : fr δ m = .ok [.p (.int x), .p (.int y)] m') (hx : 0 ≤ x) (hx1 : x < 1000) (hy : y = x + (k : Int)) (hk : k < 1000) (hy1 : y < 1000) : sIt2 fr δ m = .ok ⟨(numsFrom x k).map P.int, fun _ => true⟩ m' := by
  have g : rg2 [.p (.int x), .p (.int y)] = some (x, y) := rg2_ok hx hx1 (by omega) hy1
  rw [e_It2, h]
  show itR ((rg2 [.p (.int x), .p (.int y)]).map fun q => (⟨upFrom q.1 (q.2 - q.1).toNat, fun _ => true⟩ : Itm)) m' = _
  rw [g]
  have : (y - x).toNat = k := by omega
  show ER.ok (⟨upFrom x (y - x).toNat, fun _ => true⟩ : Itm) _ = _
  rw [this, upFrom_from]
theorem numsTo_from (k : Nat) : numsTo k = numsFrom 0 k := by simp [numsTo, numsFrom]
theorem book_ok {n : Nat} {t : Rnd} {st mo : Nat} (h : t.Ok (n + (2 + 4 * st + 4 * mo))) (s1 : 1 ≤ st) (s2 : st < 50) (m2 : mo < 100) (r : Mem) :
    ∃ (x : Book) (t' : Rnd), s__law_book [.ref 0, .p (.int st), .p (.int mo)] (t.mo :: r) = .ok (.p x.p) (t'.mo :: r) ∧ x.Ok st ∧ x.es.length ≤ st + mo ∧ t'.Ok n := by
  obtain ⟨v, t1, e1, v0, v1, ok1⟩ := draw_ok (n := n + (1 + 4 * st + 4 * mo)) (t := t) (h.le (by omega)) (top := (st : Int)) (by omega) (by omega) r
  obtain ⟨k, hk⟩ : ∃ k : Nat, v = (k : Int) := ⟨v.toNat, by omega⟩
  obtain ⟨K, hK⟩ : ∃ K : Int, 1 + v = K := ⟨_, rfl⟩
  obtain ⟨S, hS⟩ : ∃ S : Int, (st : Int) = S := ⟨_, rfl⟩
  obtain ⟨M, hM⟩ : ∃ M : Int, (mo : Int) = M := ⟨_, rfl⟩
  obtain ⟨es1, t2, d3, e2, nd2, ok2e, l2, ok2⟩ := book1 (n := n + (1 + 2 * st + 4 * mo)) r (.p (.int S)) (.p (.int M)) .und .und .und (.p (.int K)) .und (k := K) (numsTo k) [] t1 .und (fun x hx => by
    have := mem_numsTo hx
    omega) (ok1.le (by rw [numsTo_len]; omega)) (by rw [numsTo_len]; simp; omega) List.nodup_nil (fun e he => by cases he)
  rw [numsTo_len] at l2
  obtain ⟨u, t3, e3, u0, u1, ok3⟩ := draw_ok (n := n + (2 * st + 4 * mo)) (t := t2) (ok2.le (by omega)) (top := (M + 1)) (by omega) (by omega) (r ++ [edM es1])
  obtain ⟨j, hj⟩ : ∃ j : Nat, u = (j : Int) := ⟨u.toNat, by omega⟩
  obtain ⟨es2, t4, d4, e4, nd4, ok4e, l4, ok4⟩ := book2 (n := n + 2 * st) r (.p (.int S)) (.p (.int M)) d3 .und .und .und (k := K) (by omega) (by omega) (numsTo j) es1 t3 .und (ok3.le (by rw [numsTo_len]; omega)) (by rw [numsTo_len]; simp at l2; omega) nd2 ok2e
  rw [numsTo_len] at l4
  obtain ⟨ys, t5, e5, sb5, ok5⟩ := pick_ok (n := n + st) (r := r ++ [edM es2]) (δ := [.ref 0, .p (.int S), .p (.int M), d3, d4, .und, .und, .p (.int K), .ref (r.length + 1), .und]) (i := 9) (ft := upT) (by simp) (fun x n t ok => toss_ok (by omega) (by omega) (by simp) n t ok) ((numsFrom 1 k).map P.int) t4 (ok4.le (by simp [numsFrom]; omega))
  obtain ⟨up, rfl, sup⟩ := sub_map sb5
  obtain ⟨zs, t6, e6, sb6, ok6⟩ := pick_ok (n := n) (r := r ++ [edM es2]) (δ := [.ref 0, .p (.int S), .p (.int M), d3, d4, .p (numsT up), .und, .p (.int K), .ref (r.length + 1), .und]) (i := 9) (ft := deafT) (by simp) (fun x n t ok => toss_ok (by omega) (by omega) (by simp) n t ok) ((numsTo (k + 1)).map P.int) t5 (ok5.le (by simp [numsTo_len]; omega))
  obtain ⟨deaf, rfl, sdeaf⟩ := sub_map sb6
  have lup : up.length ≤ 100 := by have := sup.length_le; simp [numsFrom] at this; omega
  have ldeaf : deaf.length ≤ 100 := by have := sdeaf.length_le; rw [numsTo_len] at this; omega
  refine ⟨⟨K, up, deaf, sortE es2⟩, t6, ?_, ?_, ?_, ok6⟩
  · have m5 := mkL_ok (xs := up.map P.int) (m := t5.mo :: (r ++ [edM es2])) (by simp; omega)
    have m6 := mkL_ok (xs := deaf.map P.int) (m := t6.mo :: (r ++ [edM es2])) (by simp; omega)
    have f0 : (some (.dT [] []) : Option MO) = edM [] := rfl
    have so := sorted_mapE es2
    have i1 : sIt1 (sCons (sOp pSub (sName 7) (sC (.int 1))) sNil) [.ref 0, .p (.int S), .p (.int M), .und, .und, .und, .und, .p (.int K), .ref (r.length + 1), .und] (t1.mo :: (r ++ [edM []])) = .ok ⟨(numsTo k).map P.int, fun _ => true⟩ (t1.mo :: (r ++ [edM []])) := it1_nat (x := K - 1) (by simp) (by omega) (by omega)
    have i2 : sIt1 (sCons (sFn s__law_draw (sCons (sName 0) (sCons (sOp pAdd (sName 2) (sC (.int 1))) sNil))) sNil) [.ref 0, .p (.int S), .p (.int M), d3, .und, .und, .und, .p (.int K), .ref (r.length + 1), .und] (t2.mo :: (r ++ [edM es1])) = .ok ⟨(numsTo j).map P.int, fun _ => true⟩ (t3.mo :: (r ++ [edM es1])) := it1_nat (x := u) (by simp [e3]) (by omega) (by omega)
    have i3 : sIt2 (sCons (sC (.int 1)) (sCons (sName 7) sNil)) [.ref 0, .p (.int S), .p (.int M), d3, d4, .und, .und, .p (.int K), .ref (r.length + 1), .und] (t4.mo :: (r ++ [edM es2])) = .ok ⟨(numsFrom 1 k).map P.int, fun _ => true⟩ (t4.mo :: (r ++ [edM es2])) := it2_nat (x := 1) (y := K) (by simp) (by omega) (by omega) (by omega) (by omega) (by omega)
    have i4 : sIt1 (sCons (sName 7) sNil) [.ref 0, .p (.int S), .p (.int M), d3, d4, .p (numsT up), .und, .p (.int K), .ref (r.length + 1), .und] (t5.mo :: (r ++ [edM es2])) = .ok ⟨(numsTo (k + 1)).map P.int, fun _ => true⟩ (t5.mo :: (r ++ [edM es2])) := it1_nat (x := K) (by simp) (by omega) (by omega)
    clear l2 l4 ok1 ok2 ok3 ok4 ok5 ok6 hk hj h s1 s2 m2 v0 v1 u0 u1
    rw [hS] at e1
    rw [hS, hM]
    unfold s__law_book b__law_book
    simp only [kB1, kB2, upT, deafT] at e2 e4 e5 e6
    simp only [e_fnS, starts_eq, n__law_book]
    have c5 : sLc (sIt2 (sCons (sC (.int 1)) (sCons (sName 7) sNil))) (gN 9) (sB (sOp pEq (sFn s__law_draw (sCons (sName 0) (sCons (sC (P.int 2)) sNil))) (sC (P.int 0)))) (sName 9) [9] [.ref 0, .p (.int S), .p (.int M), d3, d4, .und, .und, .p (.int K), .ref (r.length + 1), .und] (t4.mo :: (r ++ [edM es2])) = .ok (.p (.lst (up.map .int))) (t5.mo :: (r ++ [edM es2])) := by
      rw [e_Lc, i3]
      show (compL _ _ _ _ _ _ _).bindN mkL = _
      rw [← m5]
      exact congrArg (fun z => ER.bindN z mkL) e5
    have c6 : sLc (sIt1 (sCons (sName 7) sNil)) (gN 9) (sB (sOp pEq (sFn s__law_draw (sCons (sName 0) (sCons (sC (P.int 4)) sNil))) (sC (P.int 0)))) (sName 9) [9] [.ref 0, .p (.int S), .p (.int M), d3, d4, .p (numsT up), .und, .p (.int K), .ref (r.length + 1), .und] (t5.mo :: (r ++ [edM es2])) = .ok (.p (.lst (deaf.map .int))) (t6.mo :: (r ++ [edM es2])) := by
      rw [e_Lc, i4]
      show (compL _ _ _ _ _ _ _).bindN mkL = _
      rw [← m6]
      exact congrArg (fun z => ER.bindN z mkL) e6
    have nT : ∀ xs : List Int, P.tup (xs.map .int) = numsT xs := fun _ => rfl
    simp [-rg1_int, -rg2_int, -e_It1, -e_It2, -e_Lc, List.replicate_succ, e1, f0, hK, i1, e2, i2, e4, c5, nT, c6, so, gTuple_lst]
    rfl
  · exact ⟨by show 1 ≤ K; omega, by show K ≤ (st : Int); omega, (from_asc 1 k).sublist sup, fun i hi => by
      have := mem_from (sup.subset hi)
      refine ⟨this.1, ?_⟩
      show i < K
      omega, by
      show deaf.Pairwise (· < ·)
      rw [numsTo_from] at sdeaf
      exact (from_asc 0 (k + 1)).sublist sdeaf, fun i hi => by
      have := mem_numsTo (sdeaf.subset hi)
      refine ⟨this.1, ?_⟩
      show i < K
      omega, sortE_asc nd4, fun e he => ok4e e ((sortE_perm es2).mem_iff.mp he)⟩
  · have := (sortE_perm es2).length_eq
    show (sortE es2).length ≤ _
    simp at l2
    omega
end DL

set_option Elab.async false
set_option linter.all false
set_option maxRecDepth 100000
set_option maxHeartbeats 2000000
/-! Plain part h: drawn houses. -/
noncomputable section
namespace DL
open PySem PySem.Spec PyProof.Rows L2
def wds : List Str := ["a", "bus", "go", "up"]
def wd (i : Int) : Str := if i = 0 then "a" else if i = 1 then "bus" else if i = 2 then "go" else "up"
def wlt (x y : Str) : Prop := x.cps.toList < y.cps.toList
theorem four {i : Int} (h : i ∈ numsTo 4) : i = 0 ∨ i = 1 ∨ i = 2 ∨ i = 3 := by
  have := mem_numsTo h
  omega
theorem wd_mem {i : Int} : wd i ∈ wds := by
  unfold wd wds
  split
  · simp
  · split
    · simp
    · split <;> simp
theorem wd_ne : ∀ {i j : Int}, i ∈ numsTo 4 → j ∈ numsTo 4 → i ≠ j → wd i ≠ wd j := by
  intro i j hi hj h
  rcases four hi with rfl | rfl | rfl | rfl <;> rcases four hj with rfl | rfl | rfl | rfl <;> first | exact absurd rfl h | decide +kernel
theorem wds_lt : ∀ x ∈ wds, ∀ y ∈ wds, PySem.W.dataLt (P.str x).py (P.str y).py = true → wlt x y := by
  have key : ∀ x ∈ wds, ∀ y ∈ wds, PySem.W.dataLt (P.str x).py (P.str y).py = decide (x.cps.toList < y.cps.toList) := by decide +kernel
  intro x hx y hy h
  rw [key x hx y hy] at h
  unfold wlt
  exact of_decide_eq_true h
theorem wd_ix {i : Int} (h : i ∈ numsTo 4) : pIx (.lst [.str "a", .str "bus", .str "go", .str "up"]) (.int i) = some (.str (wd i)) := by
  rcases four h with rfl | rfl | rfl | rfl <;> rfl
def Wle (x y : Str) : Bool := P.le (.str x) (.str y)
def sortW (ws : List Str) : List Str := ws.mergeSort Wle
theorem sorted_mapW (ws : List Str) : gSorted [.lst (ws.map P.str)] = some ((sortW ws).map P.str) := by
  have c : P.plainL (ws.map P.str) = true ∧ alikeL (ws.map P.str) = true ∧ ((ws.map P.str).all P.rows = true ∨ (ws.map P.str).all P.item = true) ∧ ((ws.map P.str).all fun x => decide (x.dep ≤ 100)) = true := by
    refine ⟨plainL_txs ws, ?_, .inr ?_, ?_⟩
    · unfold alikeL
      rw [List.all_eq_true]
      intro a ha
      rw [List.all_eq_true]
      intro b hb
      obtain ⟨x, _, rfl⟩ := List.mem_map.mp ha
      obtain ⟨y, _, rfl⟩ := List.mem_map.mp hb
      simp [P.py, PySem.W.alike]
    · rw [List.all_eq_true]
      intro a ha
      obtain ⟨x, _, rfl⟩ := List.mem_map.mp ha
      rfl
    · rw [List.all_eq_true]
      intro a ha
      obtain ⟨x, _, rfl⟩ := List.mem_map.mp ha
      simp [P.dep]
  have e : gSorted [.lst (ws.map P.str)] = some ((ws.map P.str).mergeSort P.le) := if_pos c
  rw [e]
  congr 1
  exact (List.map_mergeSort (r := Wle) (s := P.le) (f := P.str) (l := ws) fun a _ b _ => rfl).symm
theorem sortW_perm (ws : List Str) : (sortW ws).Perm ws := List.mergeSort_perm _ _
theorem sortW_asc {ws : List Str} (nd : ws.Nodup) (hm : ∀ x ∈ ws, x ∈ wds) : (sortW ws).Pairwise wlt := by
  have nd' : (sortW ws).Pairwise (· ≠ ·) := (sortW_perm ws).nodup_iff.mpr nd
  have so : (sortW ws).Pairwise (fun a b => Wle a b = true) := List.pairwise_mergeSort (fun a b c => le_tot.trans (.str a) (.str b) (.str c)) (fun a b => by
    show (P.le (.str a) (.str b) || P.le (.str b) (.str a)) = true
    rcases le_tot.total (.str a) (.str b) with h | h
    · rw [h]; rfl
    · rw [h]; simp) ws
  refine (so.and nd').imp_of_mem fun {a b} ha hb ⟨h1, h2⟩ => wds_lt a (hm a ((sortW_perm ws).mem_iff.mp ha)) b (hm b ((sortW_perm ws).mem_iff.mp hb)) ?_
  have h3 : PySem.W.dataLt (P.str b).py (P.str a).py = false := by
    have h1' : (!PySem.W.dataLt (P.str b).py (P.str a).py) = true := h1
    simpa using h1'
  cases q : PySem.W.dataLt (P.str a).py (P.str b).py with
  | true => rfl
  | false =>
    have := lt_total (a := .str a) (b := .str b) rfl rfl (by simp [P.py, PySem.W.alike]) q h3
    exact absurd (by simpa [P.eqv] using this) h2
theorem Book.Ok.mono {k j : Nat} {x : Book} (h : x.Ok k) (hk : k ≤ j) : x.Ok j := ⟨h.n1, by have := h.n2; omega, h.up, h.upI, h.deaf, h.deafI, h.es, h.esI⟩
structure Rm where
  name : Str
  bk : Book
  below : List Str
def Rm.p (x : Rm) : P := .tup [.str x.name, .tup [x.bk.p, .tup (x.below.map P.str)]]
structure Rm.Ok (ns : List Str) (x : Rm) : Prop where
  bk : x.bk.Ok 6
  few : x.bk.es.length ≤ 24
  below : x.below.Sublist ns
structure HouseOk (hs : List Rm) : Prop where
  asc : (hs.map Rm.name).Pairwise wlt
  mem : ∀ x ∈ hs.map Rm.name, x ∈ wds
  l1 : 1 ≤ hs.length
  l2 : hs.length ≤ 3
  ok : ∀ x ∈ hs, x.Ok (hs.map Rm.name)
abbrev hT : FB := (sB (sOp pGt (sFn s__law_draw (sCons (sName 0) (sCons (sC (.int 4)) sNil))) (sC (.int 0))))
theorem toss_gt {r : Mem} {δ : DS} {k : Int} (k0 : 0 < k) (k1 : k < 1000) (h0 : δ[0]? = some (.ref 0)) (n : Nat) (t : Rnd) (ok : t.Ok (n + 1)) :
    ∃ (b : Bool) (t' : Rnd), (sB (sOp pGt (sFn s__law_draw (sCons (sName 0) (sCons (sC (.int k)) sNil))) (sC (.int 0)))) δ (t.mo :: r) = .ok b (t'.mo :: r) ∧ t'.Ok n := by
  obtain ⟨v, t', e, _, _, ok'⟩ := draw_ok ok k0 (by omega) r
  have g : pGt (.int v) (.int 0) = some (.bl (decide (v > 0))) := rfl
  exact ⟨decide (v > 0), t', by simp [h0, e, g], ok'⟩
abbrev hB : FS := (sSeq (sAsgN (sCall gTuple (sCons (sLc (sIt (sName 4)) (gN 9) (sB (sOp pGt (sFn s__law_draw (sCons (sName 0) (sCons (sC (.int 4)) sNil))) (sC (.int 0)))) (sName 9) [9]) sNil)) 7)
    (sDrop (sMt (onLst fAppend) (sName 5) (sCons (sTup (sCons (sName 6) (sCons (sTup (sCons (sFn s__law_book (sCons (sName 0) (sCons (sName 2) (sCons (sName 3) sNil)))) (sCons (sName 7) sNil))) sNil))) sNil))))
def rmM (xs : List Rm) : Option MO := some (.lst (xs.map Rm.p))
@[simp] theorem seen_rmM (xs : List Rm) : seen (some (rmM xs)) = some (.lst (xs.map Rm.p)) := id rfl
@[simp] theorem isLstV_l (xs : List P) : isLstV (some (.lst xs)) = true := id rfl
theorem app_rmM {m : Mem} {i : Nat} {xs : List Rm} {x : Rm} (h : m[i]? = some (rmM xs)) (hl : xs.length < 1000000) :
    onLst fAppend (.ref i) [.p x.p] m = some (.non, m.set i (rmM (xs ++ [x]))) := by
  unfold onLst
  simp only [h, rmM, allP_cons, allP_nil, Option.map_some]
  unfold fAppend
  dsimp only
  rw [if_pos (by simp; omega)]
  simp
theorem it_lst (fa : FE) {δ : DS} {m m' : Mem} {xs : List P} (h : fa δ m = .ok (.p (.lst xs)) m') : sIt fa δ m = .ok ⟨xs, fun _ => true⟩ m' := by
  rw [e_It, h]
  rfl
theorem house_loop {n st mo : Nat} {S M : Int} (hS : (st : Int) = S) (hM : (mo : Int) = M) (s1 : 1 ≤ st) (s2 : st ≤ 6) (sm : st + mo ≤ 24) (r : Mem) (d1 : D) {ns : List Str} (hn : ns.length ≤ 4) : ∀ (xs : List Str) (hs : List Rm) (t : Rnd) (d6 d7 : D), t.Ok (n + 128 * xs.length) → hs.length + xs.length < 500 →
    ∃ (hs' : List Rm) (t' : Rnd) (d6' d7' : D), forL (gN 6) hB (fun _ => true) (xs.map P.str) [.ref 0, d1, .p (.int S), .p (.int M), .p (.lst (ns.map P.str)), .ref (r.length + 1), d6, d7, .und, .und] (t.mo :: (r ++ [rmM hs])) = .nx [.ref 0, d1, .p (.int S), .p (.int M), .p (.lst (ns.map P.str)), .ref (r.length + 1), d6', d7', .und, .und] (t'.mo :: (r ++ [rmM (hs ++ hs')])) ∧
      hs'.map Rm.name = xs ∧ (∀ x ∈ hs', x.Ok ns ∧ x.bk.n ≤ st ∧ x.bk.es.length ≤ st + mo) ∧ t'.Ok n
  | [], hs, t, d6, d7, ok, hl => ⟨[], t, d6, d7, by simp [forL], rfl, by simp, ok⟩
  | x :: xs, hs, t, d6, d7, ok, hl => by
    rw [List.length_cons] at hl
    obtain ⟨ys, t1, e1, sb, ok1⟩ := pick_ok (n := n + 128 * xs.length + 124) (r := r ++ [rmM hs]) (δ := [.ref 0, d1, .p (.int S), .p (.int M), .p (.lst (ns.map P.str)), .ref (r.length + 1), .p (.str x), d7, .und, .und]) (i := 9) (ft := hT) (by simp) (fun x n t ok => toss_gt (by omega) (by omega) (by simp) n t ok) (ns.map P.str) t (ok.le (by rw [List.length_cons]; simp; omega))
    obtain ⟨be, rfl, sbe⟩ := sub_map sb
    obtain ⟨bk, t2, e2, okb, few, ok2⟩ := book_ok (n := n + 128 * xs.length) (t := t1) (st := st) (mo := mo) (ok1.le (by omega)) (by omega) (by omega) (by omega) (r ++ [rmM hs])
    rw [hS, hM] at e2
    have e3 : onLst fAppend (.ref (r.length + 1)) [.p (Rm.p ⟨x, bk, be⟩)] (t2.mo :: (r ++ [rmM hs])) = some (.non, t2.mo :: (r ++ [rmM (hs ++ [⟨x, bk, be⟩])])) := by
      rw [app_rmM m1_at0 (by omega), m1_set0]
    obtain ⟨hs', t', d6', d7', ef, en, eo, ok'⟩ := house_loop hS hM s1 s2 sm r d1 hn xs (hs ++ [⟨x, bk, be⟩]) t2 (.p (.str x)) (.p (.tup (be.map P.str))) ok2 (by simp; omega)
    refine ⟨⟨x, bk, be⟩ :: hs', t', d6', d7', ?_, by simp [en], ?_, ok'⟩
    · have hbe : be.length ≤ 4 := Nat.le_trans sbe.length_le hn
      have m1 := mkL_ok (xs := be.map P.str) (m := t1.mo :: (r ++ [rmM hs])) (by simp; omega)
      have c1 : sLc (sIt (sName 4)) (gN 9) (sB (sOp pGt (sFn s__law_draw (sCons (sName 0) (sCons (sC (.int 4)) sNil))) (sC (.int 0)))) (sName 9) [9] [.ref 0, d1, .p (.int S), .p (.int M), .p (.lst (ns.map P.str)), .ref (r.length + 1), .p (.str x), d7, .und, .und] (t.mo :: (r ++ [rmM hs])) = .ok (.p (.lst (be.map P.str))) (t1.mo :: (r ++ [rmM hs])) := by
        rw [e_Lc, it_lst (sName 4) (xs := ns.map P.str) (m' := t.mo :: (r ++ [rmM hs])) (by simp)]
        show (compL _ _ _ _ _ _ _).bindN mkL = _
        rw [← m1]
        exact congrArg (fun z => ER.bindN z mkL) e1
      have pb : P.tup [.str x, .tup [bk.p, .tup (be.map P.str)]] = Rm.p ⟨x, bk, be⟩ := rfl
      have e2' : s__law_book [.ref 0, .p (.int S), .p (.int M)] (t1.mo :: (r ++ [rmM hs])) = .ok (.p bk.p) (t2.mo :: (r ++ [rmM hs])) := e2
      rw [List.map_cons, forL]
      simp [-e_Lc, c1, gTuple_lst, e2', pb, e3]
      rw [ef]
      simp
    · intro y hy
      rcases List.mem_cons.mp hy with rfl | hy
      · exact ⟨⟨okb.mono s2, by show bk.es.length ≤ 24; omega, sbe⟩, okb.n2, few⟩
      · exact eo y hy
theorem cut_to {α : Type} (xs : List α) (k : Nat) : cut xs none (some (k : Int)) = xs.take k := by
  unfold cut
  have e := HT.sIx_nat xs.length xs.length k
  rw [e, HT.sIx_none]
  simp
theorem house_ok {n st mo : Nat} {K S M : Int} (k1 : 1 ≤ K) (k3 : K ≤ 3) (hS : (st : Int) = S) (hM : (mo : Int) = M) (s1 : 1 ≤ st) (s2 : st ≤ 6) (sm : st + mo ≤ 24) {t : Rnd} (h : t.Ok (n + 5 + 128 * 4)) (r : Mem) :
    ∃ (hs : List Rm) (t' : Rnd), s__law_house [.ref 0, .p (.int K), .p (.int S), .p (.int M)] (t.mo :: r) = .ok (.p (.tup (hs.map Rm.p))) (t'.mo :: r) ∧ HouseOk hs ∧ ((hs.length : Int) ≤ K ∧ ∀ x ∈ hs, x.bk.n ≤ st ∧ x.bk.es.length ≤ st + mo) ∧ t'.Ok n := by
  obtain ⟨zs, t1, e1, pz, ok1⟩ := order_ok (n := n + 1 + 128 * 4) (t := t) (k := 4) (h.le (by omega)) (by omega) r
  obtain ⟨v, t2, e2, v0, v1, ok2⟩ := draw_ok (n := n + 128 * 4) (t := t1) (ok1.le (by omega)) (top := K) (by omega) (by omega) r
  obtain ⟨k, hk⟩ : ∃ k : Nat, 1 + v = (k : Int) := ⟨(1 + v).toNat, by omega⟩
  have lz : zs.length = 4 := by rw [pz.length_eq, numsTo_len]
  have lk : (zs.take k).length = k := by rw [List.length_take]; omega
  have hz : ∀ x ∈ zs.take k, x ∈ numsTo 4 := fun x hx => pz.mem_iff.mp (List.mem_of_mem_take hx)
  have nd : ((zs.take k).map wd).Nodup := by
    have nz : zs.Nodup := pz.nodup_iff.mpr (by decide)
    have nt : (zs.take k).Pairwise (· ≠ ·) := List.Pairwise.sublist (List.take_sublist k zs) nz
    show ((zs.take k).map wd).Pairwise (· ≠ ·)
    rw [List.pairwise_map]
    exact nt.imp_of_mem fun ha hb hne => wd_ne (hz _ ha) (hz _ hb) hne
  have hw : ∀ x ∈ (zs.take k).map wd, x ∈ wds := fun x hx => by
    obtain ⟨i, _, rfl⟩ := List.mem_map.mp hx
    exact wd_mem
  have asc := sortW_asc nd hw
  have hw' : ∀ x ∈ sortW ((zs.take k).map wd), x ∈ wds := fun x hx => hw x ((sortW_perm _).mem_iff.mp hx)
  have so := sorted_mapW ((zs.take k).map wd)
  have ls : (sortW ((zs.take k).map wd)).length = k := by rw [(sortW_perm _).length_eq, List.length_map, lk]
  obtain ⟨ns, hns⟩ : ∃ ns, sortW ((zs.take k).map wd) = ns := ⟨_, rfl⟩
  rw [hns] at asc hw' so ls
  obtain ⟨hs, t3, d6, d7, e3, en, eo, ok3⟩ := house_loop (n := n) hS hM s1 s2 sm r (.p (.int K)) (ns := ns) (by omega) ns [] t2 .und .und (ok2.le (by omega)) (by simp; omega)
  have lh : hs.length = k := by rw [← ls, ← en, List.length_map]
  refine ⟨hs, t3, ?_, ⟨by rw [en]; exact asc, by rw [en]; exact hw', by omega, by omega, by rw [en]; exact fun x hx => (eo x hx).1⟩, ⟨by omega, fun x hx => (eo x hx).2⟩, ok3⟩
  have c1 : ∀ m : Mem, compL (gN 8) sYes (elt (sOp pIx (sLst (sCons (sC (.str "a")) (sCons (sC (.str "bus")) (sCons (sC (.str "go")) (sCons (sC (.str "up")) sNil))))) (sName 8))) (fun _ => true) [.ref 0, .p (.int K), .p (.int S), .p (.int M), .und, .und, .und, .und, .und, .und] ((zs.take k).map P.int) m = .ok (((zs.take k).map wd).map P.str) m := by
    intro m
    rw [compL_pure (fun _ => true) (fun x => match x with
      | .int i => .str (wd i)
      | x => x)]
    · rw [List.filter_eq_self.mpr (by simp), List.map_map, List.map_map]
      rfl
    · intro x hx
      obtain ⟨i, hi, rfl⟩ := List.mem_map.mp hx
      exact ⟨[.ref 0, .p (.int K), .p (.int S), .p (.int M), .und, .und, .und, .und, .p (.int i), .und], by simp, by simp, fun _ => by simp [wd_ix (hz i hi)]⟩
  have f0 : (some (.lst []) : Option MO) = rmM [] := rfl
  have e1' : s__law_order [.ref 0, .p (.int 4)] (t.mo :: r) = .ok (.p (nmL zs)) (t1.mo :: r) := e1
  have cz : pSl (nmL zs) none (some (1 + v)) = some (.lst ((zs.take k).map P.int)) := by
    rw [hk]
    show some (P.lst (cut (zs.map P.int) none (some (k : Int)))) = _
    rw [cut_to, List.map_take]
  have c2 : sLc (sIt (sSl (sFn s__law_order (sCons (sName 0) (sCons (sC (.int 4)) sNil))) sNoPart (sPart (sOp pAdd (sC (.int 1)) (sFn s__law_draw (sCons (sName 0) (sCons (sName 1) sNil))))))) (gN 8) sYes (sOp pIx (sLst (sCons (sC (.str "a")) (sCons (sC (.str "bus")) (sCons (sC (.str "go")) (sCons (sC (.str "up")) sNil))))) (sName 8)) [8] [.ref 0, .p (.int K), .p (.int S), .p (.int M), .und, .und, .und, .und, .und, .und] (t.mo :: r) = .ok (.p (.lst (((zs.take k).map wd).map P.str))) (t2.mo :: r) := by
    rw [e_Lc, it_lst (xs := (zs.take k).map P.int) (m' := t2.mo :: r) _ (by simp [e1', e2, cz])]
    have mk := mkL_ok (xs := ((zs.take k).map wd).map P.str) (m := t2.mo :: r) (by simp; omega)
    show (compL _ _ _ _ _ _ _).bindN mkL = _
    rw [← mk]
    exact congrArg (fun z => ER.bindN z mkL) (c1 _)
  unfold s__law_house b__law_house
  simp only [hB] at e3
  simp only [e_fnS, starts_eq, n__law_house]
  obtain ⟨us, hus⟩ : ∃ us, (zs.take k).map wd = us := ⟨_, rfl⟩
  rw [hus] at c2 so
  have iq : ∀ (δ : DS) (m : Mem), itOf (.p (.lst (ns.map P.str))) m = some ⟨ns.map P.str, fun _ => true⟩ := fun _ _ => rfl
  simp [-e_Lc, List.replicate_succ, c2, so, f0, it_lst, e3, gTuple_lst]
end DL

set_option Elab.async false
set_option linter.all false
set_option maxRecDepth 100000
set_option maxHeartbeats 2000000
/-! Plain part i: how the source of draws begins. -/
noncomputable section
namespace DL
open PySem PySem.Spec PyProof.Rows L2
theorem numd_ints (xs : List Int) : ∃ qs : List (Int × Int), numd (xs.map P.int) = qs.map fun q => .tup [.int q.1, .int q.2] := by
  refine ⟨xs.mapIdx fun i x => ((i : Int), x), ?_⟩
  unfold numd
  apply List.ext_getElem
  · simp
  · intro i h1 h2
    simp
abbrev beT : FG := (gT 2 (gsC (gN 2) (gsC (gN 3) gsN)))
abbrev beB : FS := (sAsgN (sOp pMod (sCall gInt (sCons (sOp pMul (sOp pAdd (sOp pAdd (sOp pAdd (sName 1) (sOp pMod (sCall gInt (sCons (sName 3) sNil)) (sC (.int 1000000007)))) (sOp pMul (sC (.int 31)) (sName 2))) (sC (.int 7))) (sC (.int 48271))) sNil)) (sC (.int 2147483647))) 1)
theorem begun_loop (d0 : D) (m : Mem) : ∀ (qs : List (Int × Int)) (tot : Int) (d2 d3 : D), ∃ (tot' : Int) (d2' d3' : D), forL beT beB (fun _ => true) (qs.map fun q => .tup [.int q.1, .int q.2]) [d0, .p (.int tot), d2, d3] m = .nx [d0, .p (.int tot'), d2', d3'] m
  | [], tot, d2, d3 => ⟨tot, d2, d3, by simp [forL]⟩
  | q :: qs, tot, d2, d3 => by
    have p1 : pMod (.int q.2) (.int 1000000007) = some (.int (q.2 % 1000000007)) := pMod_int (by decide)
    have p2 : pMul (.int 31) (.int q.1) = some (.int (31 * q.1)) := pMul_l (by decide)
    have p3 : ∀ a : Int, pMul (.int a) (.int 48271) = some (.int (a * 48271)) := fun a => pMul_r (by decide)
    have p4 : ∀ a : Int, pMod (.int a) (.int 2147483647) = some (.int (a % 2147483647)) := fun a => pMod_int (by decide)
    obtain ⟨t', d2', d3', e⟩ := begun_loop d0 m qs ((tot + q.2 % 1000000007 + 31 * q.1 + 7) * 48271 % 2147483647) (.p (.int q.1)) (.p (.int q.2))
    refine ⟨t', d2', d3', ?_⟩
    rw [List.map_cons, forL]
    simp [p1, p2, p3, p4]
    exact e
theorem begun_ok (ns : List Int) (h : ns.length ≤ 63) : ∃ t : Rnd, s__law_begun [.p (.lst (ns.map P.int))] [] = .ok (.ref 0) [t.mo] ∧ t.Ok 1000000 := by
  obtain ⟨qs, eq⟩ := numd_ints (ns.take 63)
  obtain ⟨tot, d2, d3, e⟩ := begun_loop (.p (.lst (ns.map P.int))) [] qs 17 .und .und
  refine ⟨⟨ns.filter fun i => decide (i ≥ 10 ^ 18), tot, 0⟩, ?_, Nat.le_trans (List.length_filter_le _ _) h, by show (0 : Int) ≤ 0; omega, by show (0 : Int) + 1000000 ≤ 2 ^ 60; omega⟩
  have pw : pPow (.int 10) (.int 18) = some (.int (10 ^ 18)) := by decide +kernel
  have cz : pSl (.lst (ns.map P.int)) none (some 63) = some (.lst ((ns.take 63).map P.int)) := by
    show some (P.lst (cut (ns.map P.int) none (some ((63 : Nat) : Int)))) = _
    rw [cut_to, List.map_take]
  have ge : ∀ i j : Int, pGe (.int i) (.int j) = some (.bl (decide (i ≥ j))) := fun _ _ => rfl
  have c1 : compL (gN 3) (sB (sOp pGe (sName 3) (sOp pPow (sC (.int 10)) (sC (.int 18))))) (elt (sName 3)) (fun _ => true) [.p (.lst (ns.map P.int)), .p (.int tot), d2, .und] (ns.map P.int) [] = .ok ((ns.filter fun i => decide (i ≥ 10 ^ 18)).map P.int) [] := by
    rw [compL_pure (fun x => match x with
      | .int i => decide (i ≥ 10 ^ 18)
      | _ => false) id]
    · rw [List.map_id, List.filter_map]
      rfl
    · intro x hx
      obtain ⟨i, hi, rfl⟩ := List.mem_map.mp hx
      exact ⟨[.p (.lst (ns.map P.int)), .p (.int tot), d2, .p (.int i)], by simp, by simp [pw, ge], fun _ => by simp⟩
  have l2 : sLc (sIt (sName 0)) (gN 3) (sB (sOp pGe (sName 3) (sOp pPow (sC (.int 10)) (sC (.int 18))))) (sName 3) [3] [.p (.lst (ns.map P.int)), .p (.int tot), d2, d3] [] = .ok (.p (nmL (ns.filter fun i => decide (i ≥ 10 ^ 18)))) [] := by
    rw [e_Lc, it_lst (sName 0) (xs := ns.map P.int) (m' := []) (by simp)]
    have lf := List.length_filter_le (fun i => decide (i ≥ 10 ^ 18)) ns
    have mk := mkL_ok (xs := (ns.filter fun i => decide (i ≥ 10 ^ 18)).map P.int) (m := []) (by rw [List.length_map]; omega)
    show (compL _ _ _ _ _ _ _).bindN mkL = ER.ok (.p (.lst _)) []
    rw [← mk]
    exact congrArg (fun z => ER.bindN z mkL) c1
  have i1 : sItE (sCons (sSl (sName 0) sNoPart (sPart (sC (.int 63)))) sNil) [.p (.lst (ns.map P.int)), .p (.int 17), .und, .und] [] = .ok ⟨qs.map fun q => .tup [.int q.1, .int q.2], fun _ => true⟩ [] := by
    rw [← eq]
    simp [cz]
  have dd : ∀ (x : P), mkD [(.str "great", x), (.str "seed", .int tot), (.str "at", .int 0)] [] = .ok (.ref 0) [some (.dK [kG, kS, kA] [x, .int tot, .int 0])] := fun x => by
    have kk : keysOf [(.str "great", x), (.str "seed", .int tot), (.str "at", .int 0)] = some [kG, kS, kA] := rfl
    unfold mkD
    rw [kk]
    show (if [kG, kS, kA].Nodup ∧ 3 ≤ 15 then _ else _) = _
    rw [if_pos (by decide +kernel)]
    rfl
  unfold s__law_begun b__law_begun
  simp only [beT, beB] at e
  simp only [e_fnS, starts_eq, n__law_begun]
  simp [-e_Lc, -e_ItE, List.replicate_succ, i1, e, sDisp, dPairs, l2, dd]
  rfl
end DL

set_option Elab.async false
set_option linter.all false
set_option maxRecDepth 100000
set_option maxHeartbeats 2000000
/-! Plain part j: small checks. -/
noncomputable section
namespace DL
open PySem PySem.Spec PyProof.Rows L2
@[simp] theorem is1 (i : Int) : isInt (.int i) = some true := id rfl
@[simp] theorem is2 (i : Int) : isBool (.int i) = some false := id rfl
@[simp] theorem is3 (xs : List P) : isTup (.tup xs) = some true := id rfl
@[simp] theorem is4 (s : Str) : isText (.str s) = some true := id rfl
@[simp] theorem pLe_ii (a b : Int) : pLe (.int a) (.int b) = some (.bl (decide (a ≤ b))) := id rfl
@[simp] theorem pLt_ii (a b : Int) : pLt (.int a) (.int b) = some (.bl (decide (a < b))) := id rfl
@[simp] theorem pGt_ii (a b : Int) : pGt (.int a) (.int b) = some (.bl (decide (a > b))) := id rfl
theorem whole_ok {v a b : Int} (h1 : a ≤ v) (h2 : v ≤ b) (m : Mem) : s_is_whole [.p (.int v), .p (.int a), .p (.int b)] m = .ok (.p (.bl true)) m := by
  unfold s_is_whole b_is_whole
  simp [n_is_whole, h1, h2]
theorem tuple_of_ok {xs : List P} {k : Int} (h : (xs.length : Int) = k) (m : Mem) : s_is_tuple_of [.p (.tup xs), .p (.int k)] m = .ok (.p (.bl true)) m := by
  unfold s_is_tuple_of b_is_tuple_of
  simp [n_is_tuple_of, h]
theorem bools_true : ∀ xs : List P, (∀ x ∈ xs, x = .bl true) → ∃ bs, bools xs = some bs ∧ bs.all id = true
  | [], _ => ⟨[], rfl, rfl⟩
  | x :: xs, h => by
    obtain ⟨bs, e, a⟩ := bools_true xs fun y hy => h y (List.mem_cons_of_mem _ hy)
    have := h x List.mem_cons_self
    subst this
    refine ⟨true :: bs, ?_, by simp at a ⊢; exact a⟩
    rw [bools, e]
    rfl
theorem gAll_true {xs : List P} (h : ∀ x ∈ xs, x = .bl true) : gAll [.lst xs] = some (.bl true) := by
  obtain ⟨bs, e, a⟩ := bools_true xs h
  show (bools xs).map _ = _
  rw [e]
  show some (P.bl (bs.all id)) = _
  rw [a]
/-- all of a comprehension whose elements all come out true -/
theorem all_ok {fi : FI} {g : FG} {fe : FE} {vs : List Nat} {δ : DS} {m : Mem} {xs : List P} (hi : fi δ m = .ok ⟨xs, fun _ => true⟩ m) (hl : xs.length ≤ 1000) (h : ∀ x ∈ xs, ∃ δ1, g (.p x) (wipeD δ vs) = some δ1 ∧ fe δ1 m = .ok (.p (.bl true)) m) :
    sCall gAll (sCons (sLc fi g sYes fe vs) sNil) δ m = .ok (.p (.bl true)) m := by
  have c : compL g sYes (elt fe) (fun _ => true) (wipeD δ vs) xs m = .ok (xs.map fun _ => P.bl true) m := by
    rw [compL_pure (fun _ => true) (fun _ => .bl true)]
    · rw [List.filter_eq_self.mpr (by simp)]
    · intro x hx
      obtain ⟨δ1, h1, h2⟩ := h x hx
      exact ⟨δ1, h1, rfl, fun _ => h2⟩
  have l : sLc fi g sYes fe vs δ m = .ok (.p (.lst (xs.map fun _ => P.bl true))) m := by
    rw [e_Lc, hi]
    have mk := mkL_ok (xs := xs.map fun _ => P.bl true) (m := m) (by rw [List.length_map]; exact hl)
    show (compL _ _ _ _ _ _ _).bindN mkL = _
    rw [← mk]
    exact congrArg (fun z => ER.bindN z mkL) c
  have ga : gAll [.lst (xs.map fun _ => P.bl true)] = some (.bl true) := gAll_true (by simp)
  simp [-e_Lc, l, ga]
theorem mem_paird {R : P → P → Prop} : ∀ {xs : List P}, xs.Pairwise R → ∀ x ∈ paird xs (xs.drop 1), ∃ a b, x = .tup [a, b] ∧ R a b
  | [], _, x, h => by simp [paird] at h
  | [y], _, x, h => by simp [paird] at h
  | y :: z :: xs, hp, x, h => by
    have e : paird (y :: z :: xs) ((y :: z :: xs).drop 1) = .tup [y, z] :: paird (z :: xs) ((z :: xs).drop 1) := rfl
    rw [e] at h
    rw [List.pairwise_cons] at hp
    rcases List.mem_cons.mp h with rfl | h
    · exact ⟨y, z, rfl, hp.1 z List.mem_cons_self⟩
    · exact mem_paird hp.2 x h
theorem cut_1 {α : Type} (xs : List α) : cut xs (some 1) none = xs.drop 1 := by
  unfold cut
  have e := HT.sIx_nat xs.length 0 1
  have e' : HT.sIx xs.length 0 (some 1) = min 1 xs.length := e
  rw [e', HT.sIx_none]
  cases xs with
  | nil => rfl
  | cons x xs =>
    have : min 1 (x :: xs).length = 1 := by simp
    rw [this]
    simp
theorem asc_ok {xs : List P} {R : P → P → Prop} (hp : xs.Pairwise R) (hR : ∀ a b, R a b → pLt a b = some (.bl true)) (hl : xs.length ≤ 100) (m : Mem) : s_is_ascending [.p (.tup xs)] m = .ok (.p (.bl true)) m := by
  have pr := mem_paird hp
  have cz : pSl (.tup xs) (some 1) none = some (.tup (xs.drop 1)) := by
    show some (P.tup (cut xs (some 1) none)) = _
    rw [cut_1]
  have i1 : sItZ (sCons (sName 0) (sCons (sSl (sName 0) (sPart (sC (.int 1))) sNoPart) sNil)) [.p (.tup xs), .und, .und] m = .ok ⟨paird xs (xs.drop 1), fun _ => true⟩ m := by
    simp [cz]
  have a := all_ok (g := gT 2 (gsC (gN 1) (gsC (gN 2) gsN))) (fe := sOp pLt (sName 1) (sName 2)) (vs := [1, 2]) i1 (by simp [paird]; omega) (fun x hx => by
    obtain ⟨u, v, rfl, hr⟩ := pr x hx
    exact ⟨[.p (.tup xs), .p u, .p v], by simp, by simp [hR u v hr]⟩)
  unfold s_is_ascending b_is_ascending
  simp [-e_Call, n_is_ascending, a]
end DL

set_option Elab.async false
set_option linter.all false
set_option maxRecDepth 100000
set_option maxHeartbeats 2000000
/-! Plain part k: edges, stands, books are as they should be. -/
noncomputable section
namespace DL
open PySem PySem.Spec PyProof.Rows L2
theorem sit_tup (fa : FE) {δ : DS} {m m' : Mem} {xs : List P} (h : fa δ m = .ok (.p (.tup xs)) m') : sIt fa δ m = .ok ⟨xs, fun _ => true⟩ m' := by
  rw [e_It, h]
  rfl
theorem asc_ints {xs : List Int} (h : xs.Pairwise (· < ·)) (hl : xs.length ≤ 100) (m : Mem) : s_is_ascending [.p (.tup (xs.map P.int))] m = .ok (.p (.bl true)) m := by
  refine asc_ok (R := fun a b => pLt a b = some (.bl true)) ?_ (fun _ _ h => h) (by simpa using hl) m
  rw [List.pairwise_map]
  exact h.imp fun {a b} h => by simp [h]
theorem asc_strs {xs : List Str} (h : xs.Pairwise wlt) (hl : xs.length ≤ 100) (m : Mem) : s_is_ascending [.p (.tup (xs.map P.str))] m = .ok (.p (.bl true)) m := by
  refine asc_ok (R := fun a b => pLt a b = some (.bl true)) ?_ (fun _ _ h => h) (by simpa using hl) m
  rw [List.pairwise_map]
  exact h.imp fun {a b} h => by
    show some (P.bl (decide (a.cps.toList < b.cps.toList))) = _
    rw [decide_eq_true (show a.cps.toList < b.cps.toList from h)]
theorem stands_ok {xs : List Int} {a k : Int} (h : xs.Pairwise (· < ·)) (hl : xs.length ≤ 100) (hx : ∀ i ∈ xs, a ≤ i ∧ i < k) (m : Mem) : s_is_stands [.p (numsT xs), .p (.int a), .p (.int k)] m = .ok (.p (.bl true)) m := by
  have c := all_ok (fi := sIt (sName 0)) (g := gN 3) (fe := sFn s_is_whole (sCons (sName 3) (sCons (sName 1) (sCons (sOp pSub (sName 2) (sC (.int 1))) sNil)))) (vs := [3]) (δ := [.p (numsT xs), .p (.int a), .p (.int k), .und]) (m := m) (xs := xs.map P.int) (sit_tup _ (by simp [numsT])) (by simp; omega) (fun x hx' => by
    obtain ⟨i, hi, rfl⟩ := List.mem_map.mp hx'
    have := hx i hi
    have w := whole_ok (v := i) (a := a) (b := k - 1) this.1 (by omega) m
    exact ⟨[.p (numsT xs), .p (.int a), .p (.int k), .p (.int i)], by simp, by simp [w]⟩)
  have s := asc_ints h hl m
  have e : P.tup (xs.map P.int) = numsT xs := rfl
  rw [e] at s
  have i0 : isTup (numsT xs) = some true := rfl
  unfold s_is_stands b_is_stands
  simp [-e_Call, n_is_stands, c, s, i0]
def sixW : List Str := ["calm", "held", "over", "rung", "unheld"]
def strong (a : Str) : Bool := decide (a ∈ (["calm", "held", "unheld"] : List Str))
theorem pIn_asks : ∀ a ∈ sixW, pIn false (.str a) k_ASKS = some (.bl true) := by
  intro a ha
  simp only [sixW, List.mem_cons, List.not_mem_nil, or_false] at ha
  rcases ha with rfl | rfl | rfl | rfl | rfl <;> rfl
theorem pIn_strong : ∀ a ∈ sixW, pIn false (.str a) (.tup [.str "calm", .str "held", .str "unheld"]) = some (.bl (strong a)) := by
  intro a ha
  simp only [sixW, List.mem_cons, List.not_mem_nil, or_false] at ha
  rcases ha with rfl | rfl | rfl | rfl | rfl <;> rfl
theorem asks_six : ∀ q ∈ asksT, ∀ a ∈ q, a ∈ sixW := by decide +kernel
theorem asks_asc : ∀ q ∈ asksT, q.Pairwise wlt := by
  unfold wlt
  decide +kernel
theorem asks_few : ∀ q ∈ asksT, (q.filter strong).length < 2 ∧ q.length ≤ 100 := by decide +kernel
theorem asks_fine {q : List Str} (hq : q ∈ asksT) (m : Mem) : s_is_asks [.p (txs q)] m = .ok (.p (.bl true)) m := by
  have six := asks_six q hq
  have few := asks_few q hq
  have c := all_ok (fi := sIt (sName 0)) (g := gN 1) (fe := sAndV (sIs isText (sName 1)) (sOp (pIn false) (sName 1) (sC k_ASKS))) (vs := [1]) (δ := [.p (txs q), .und]) (m := m) (xs := q.map P.str) (sit_tup _ (by simp [txs])) (by simp; omega) (fun x hx' => by
    obtain ⟨a, ha, rfl⟩ := List.mem_map.mp hx'
    exact ⟨[.p (txs q), .p (.str a)], by simp, by simp [pIn_asks a (six a ha)]⟩)
  have s : s_is_ascending [.p (txs q)] m = .ok (.p (.bl true)) m := asc_strs (asks_asc q hq) few.2 m
  have i0 : isTup (txs q) = some true := rfl
  have c2 : compL (gN 1) (sB (sOp (pIn false) (sName 1) (sTup (sCons (sC (.str "calm")) (sCons (sC (.str "held")) (sCons (sC (.str "unheld")) sNil)))))) (elt (sName 1)) (fun _ => true) [.p (txs q), .und] (q.map P.str) m = .ok ((q.filter strong).map P.str) m := by
    rw [compL_pure (fun x => match x with
      | .str a => strong a
      | _ => false) id]
    · rw [List.map_id, List.filter_map]
      rfl
    · intro x hx
      obtain ⟨a, ha, rfl⟩ := List.mem_map.mp hx
      exact ⟨[.p (txs q), .p (.str a)], by simp, by simp [pIn_strong a (six a ha)], fun _ => by simp⟩
  have l2 : sLc (sIt (sName 0)) (gN 1) (sB (sOp (pIn false) (sName 1) (sTup (sCons (sC (.str "calm")) (sCons (sC (.str "held")) (sCons (sC (.str "unheld")) sNil)))))) (sName 1) [1] [.p (txs q), .und] m = .ok (.p (.lst ((q.filter strong).map P.str))) m := by
    rw [e_Lc, sit_tup (sName 0) (xs := q.map P.str) (m' := m) (by simp [txs])]
    have mk := mkL_ok (xs := (q.filter strong).map P.str) (m := m) (by rw [List.length_map]; omega)
    show (compL _ _ _ _ _ _ _).bindN mkL = _
    rw [← mk]
    exact congrArg (fun z => ER.bindN z mkL) c2
  have l3 : sCall gLen (sCons (sLc (sIt (sName 0)) (gN 1) (sB (sOp (pIn false) (sName 1) (sTup (sCons (sC (.str "calm")) (sCons (sC (.str "held")) (sCons (sC (.str "unheld")) sNil)))))) (sName 1) [1]) sNil) [.p (txs q), .und] m = .ok (.p (.int ((q.filter strong).length))) m := by
    simp [-e_Lc, l2]
  have lt : ((q.filter strong).length : Int) < 2 := by omega
  unfold s_is_asks b_is_asks
  simp [-e_Call, n_is_asks, c, s, i0, l3, lt]
theorem edge_fine {x : Edge} {k : Int} (h : x.Ok k) (m : Mem) : s_is_edge [.p x.p, .p (.int k)] m = .ok (.p (.bl true)) m := by
  have t := tuple_of_ok (xs := [.int x.b, txs x.q, .str x.w, .int x.e]) (k := 4) rfl m
  have a := asks_fine h.q m
  have w1 := whole_ok (v := x.b) (a := 0) (b := k - 1) h.b0 (by have := h.b1; omega) m
  have w2 := whole_ok (v := x.e) (a := 0) (b := k - 1) h.e0 (by have := h.e1; omega) m
  have dd : pIn false (.str x.w) k_DEEDS = some (.bl true) := by
    have hw := h.w
    simp only [deedsT, List.mem_cons, List.not_mem_nil, or_false] at hw
    rcases hw with e | e | e | e | e <;> rw [e] <;> rfl
  have x0 : pIx x.p (.int 0) = some (.int x.b) := rfl
  have x1 : pIx x.p (.int 1) = some (txs x.q) := rfl
  have x2 : pIx x.p (.int 2) = some (.str x.w) := rfl
  have x3 : pIx x.p (.int 3) = some (.int x.e) := rfl
  have t' : s_is_tuple_of [.p x.p, .p (.int 4)] m = .ok (.p (.bl true)) m := t
  unfold s_is_edge b_is_edge
  simp [n_is_edge, t', a, w1, w2, dd, x0, x1, x2, x3]
end DL

set_option Elab.async false
set_option linter.all false
set_option maxRecDepth 100000
set_option maxHeartbeats 2000000
/-! Plain part l: kinds and houses are as they should be. -/
noncomputable section
namespace DL
open PySem PySem.Spec PyProof.Rows L2
theorem for_inv {g : FG} {fb : FS} {m : Mem} (I : DS → Prop) : ∀ {xs : List P} {δ : DS}, I δ → (∀ x ∈ xs, ∀ δ, I δ → ∃ δ1, g (.p x) δ = some δ1 ∧ I δ1 ∧ fb δ1 m = .nx δ1 m) → ∃ δ', forL g fb (fun _ => true) xs δ m = .nx δ' m ∧ I δ'
  | [], δ, h0, _ => ⟨δ, by simp [forL], h0⟩
  | x :: xs, δ, h0, h => by
    obtain ⟨δ1, e1, h1, e2⟩ := h x List.mem_cons_self δ h0
    obtain ⟨δ', e3, h3⟩ := for_inv I h1 fun y hy => h y (List.mem_cons_of_mem _ hy)
    refine ⟨δ', ?_, h3⟩
    rw [forL]
    simp [e1, e2, e3]
theorem mem_numd {xs : List P} {x : P} (h : x ∈ numd xs) : ∃ (i : Nat) (hi : i < xs.length), x = .tup [.int i, xs[i]] := by
  unfold numd at h
  obtain ⟨i, hi, rfl⟩ := List.mem_mapIdx.mp h
  exact ⟨i, hi, rfl⟩
theorem itE_tup {fa : FE} {δ : DS} {m m' : Mem} {xs : List P} (h : fa δ m = .ok (.p (.tup xs)) m') : sItE (sCons fa sNil) δ m = .ok ⟨numd xs, fun _ => true⟩ m' := by
  simp [h]
theorem ix_tup {xs : List P} {i : Nat} (h : i < xs.length) : pIx (.tup xs) (.int i) = some xs[i] := by
  have h' : (i : Int) < xs.length := by omega
  simp [pIx, atI, ixN, h', h]
theorem lt_edges {x y : Edge} (h : x.lt y) : pLt x.p y.p = some (.bl true) := by
  have c : x.p.fit = true ∧ y.p.plain = true ∧ PySem.W.alike x.p.py y.p.py = true := ⟨x.fit, y.plain, x.alike y⟩
  have e : pLtD x.p y.p = some (PySem.W.dataLt x.p.py y.p.py) := if_pos c
  have h' : PySem.W.dataLt x.p.py y.p.py = true := h
  show (pLtD x.p y.p).map P.bl = _
  rw [e, h']
  rfl
theorem edges_fine {es : List Edge} {k no : Int} (hl : es.length ≤ 24) (hp : es.Pairwise Edge.lt) (ok : ∀ e ∈ es, e.Ok k) (m : Mem) : s_need_edges [.p (.int no), .p (.int k), .p (.tup (es.map Edge.p))] m = .ok (.p .non) m := by
  have hr : ∀ (i : Nat) (h1 : i + 1 < (es.map Edge.p).length), pLt ((es.map Edge.p)[i]'(by omega)) ((es.map Edge.p)[i + 1]) = some (.bl true) := by
    intro i h1
    rw [List.getElem_map, List.getElem_map]
    rw [List.length_map] at h1
    exact lt_edges (List.pairwise_iff_getElem.mp hp i (i + 1) (by omega) h1 (by omega))
  obtain ⟨δ', e, d3, d4, rfl⟩ := for_inv (m := m) (g := gT 2 (gsC (gN 3) (gsC (gN 4) gsN))) (fb := sIfS (sOrB (sNotB (sB (sFn s_is_edge (sCons (sName 4) (sCons (sName 1) sNil))))) (sAndB (sB (sOp pGt (sName 3) (sC (.int 0)))) (sNotB (sB (sOp pLt (sOp pIx (sName 2) (sOp pSub (sName 3) (sC (.int 1)))) (sName 4)))))) sBad sNx) (fun δ => ∃ d3 d4, δ = [.p (.int no), .p (.int k), .p (.tup (es.map Edge.p)), d3, d4]) (xs := numd (es.map Edge.p)) (δ := [.p (.int no), .p (.int k), .p (.tup (es.map Edge.p)), .und, .und]) ⟨.und, .und, rfl⟩ (fun x hx δ ⟨d3, d4, hδ⟩ => by
    obtain ⟨i, hi, rfl⟩ := mem_numd hx
    subst hδ
    refine ⟨[.p (.int no), .p (.int k), .p (.tup (es.map Edge.p)), .p (.int i), .p ((es.map Edge.p)[i])], by simp, ⟨_, _, rfl⟩, ?_⟩
    have hi' : i < es.length := by simpa using hi
    have ef : s_is_edge [.p ((es.map Edge.p)[i]), .p (.int k)] m = .ok (.p (.bl true)) m := by
      rw [List.getElem_map]
      exact edge_fine (ok _ (List.getElem_mem hi')) m
    obtain ⟨y, hy⟩ : ∃ y, (es.map Edge.p)[i] = y := ⟨_, rfl⟩
    cases i with
    | zero =>
      rw [hy] at ef ⊢
      simp [ef]
    | succ j =>
      have r := hr j hi
      have x1 : pIx (.tup (es.map Edge.p)) (.int (((j + 1 : Nat) : Int) - 1)) = some ((es.map Edge.p)[j]'(by omega)) := by
        have : (((j + 1 : Nat) : Int) - 1) = (j : Int) := by omega
        rw [this]
        exact ix_tup (by omega)
      rw [hy] at ef r ⊢
      obtain ⟨z, hz⟩ : ∃ z : Int, ((j + 1 : Nat) : Int) = z := ⟨_, rfl⟩
      have hz0 : z > 0 := by omega
      rw [hz] at x1 ⊢
      obtain ⟨u, hu⟩ : ∃ u, (es.map Edge.p)[j]'(by omega) = u := ⟨_, rfl⟩
      rw [hu] at x1 r
      simp [ef, x1, r, hz0])
  have i0 : isTup (.tup (es.map Edge.p)) = some true := rfl
  have it := itE_tup (fa := sName 2) (δ := [.p (.int no), .p (.int k), .p (.tup (es.map Edge.p)), .und, .und]) (m := m) (m' := m) (xs := es.map Edge.p) (by simp)
  have l24 : ¬ ((24 : Int) < (es.length : Int)) := by omega
  unfold s_need_edges b_need_edges
  simp [-e_ItE, n_need_edges, List.replicate_succ, it, e, l24]
theorem below_fine {xs ns : List Str} (hs : xs.Sublist ns) (ha : ns.Pairwise wlt) (hl : ns.length ≤ 100) (m : Mem) : s_is_below [.p (.tup (xs.map P.str)), .p (.lst (ns.map P.str))] m = .ok (.p (.bl true)) m := by
  have lx : xs.length ≤ 100 := Nat.le_trans hs.length_le hl
  have inn : ∀ a ∈ xs, pIn false (.str a) (.lst (ns.map P.str)) = some (.bl true) := by
    intro a h
    have c : (P.str a).fit = true ∧ P.plainL (ns.map P.str) = true := ⟨rfl, plainL_txs ns⟩
    have e : pIn false (.str a) (.lst (ns.map P.str)) = some (.bl (xor false ((ns.map P.str).any fun y => P.eqv y (.str a)))) := if_pos c
    have e2 : ((ns.map P.str).any fun y => P.eqv y (.str a)) = true := by
      rw [List.any_eq_true]
      exact ⟨.str a, List.mem_map_of_mem (hs.subset h), by simp [P.eqv]⟩
    rw [e, e2]
    rfl
  have c := all_ok (fi := sIt (sName 0)) (g := gN 2) (fe := sAndV (sIs isText (sName 2)) (sOp (pIn false) (sName 2) (sName 1))) (vs := [2]) (δ := [.p (.tup (xs.map P.str)), .p (.lst (ns.map P.str)), .und]) (m := m) (xs := xs.map P.str) (sit_tup _ (by simp)) (by simp; omega) (fun x hx' => by
    obtain ⟨a, h, rfl⟩ := List.mem_map.mp hx'
    exact ⟨[.p (.tup (xs.map P.str)), .p (.lst (ns.map P.str)), .p (.str a)], by simp, by simp [inn a h]⟩)
  have s := asc_strs (ha.sublist hs) lx m
  unfold s_is_below b_is_below
  simp [-e_Call, n_is_below, List.replicate_succ, c, s]
theorem asc_len : ∀ {ys : List Int} {lo hi : Int}, ys.Pairwise (· < ·) → (∀ i ∈ ys, lo ≤ i ∧ i < hi) → lo ≤ hi → (ys.length : Int) ≤ hi - lo
  | [], lo, hi, _, _, h => by simp; omega
  | y :: ys, lo, hi, hp, hb, h => by
    rw [List.pairwise_cons] at hp
    have hy := hb y List.mem_cons_self
    have := asc_len (lo := y + 1) (hi := hi) hp.2 (fun i hi => by
      have h1 := hp.1 i hi
      have h2 := hb i (List.mem_cons_of_mem _ hi)
      exact ⟨by omega, h2.2⟩) (by omega)
    rw [List.length_cons]
    omega
theorem kind_fine {x : Rm} {ns : List Str} (h : x.Ok ns) (ha : ns.Pairwise wlt) (hl : ns.length ≤ 100) (no : Int) (m : Mem) : s_need_kind [.p (.int no), .p (.tup [x.bk.p, .tup (x.below.map P.str)]), .p (.lst (ns.map P.str))] m = .ok (.p .non) m := by
  have b := h.bk
  have lu : ∀ {ys : List Int} {lo : Int}, lo ≥ 0 → ys.Pairwise (· < ·) → (∀ i ∈ ys, lo ≤ i ∧ i < x.bk.n) → ys.length ≤ 100 := by
    intro ys lo h1 h2 h3
    by_cases h : lo ≤ x.bk.n
    · have := asc_len h2 h3 h
      have := b.n2
      omega
    · cases ys with
      | nil => simp
      | cons y ys =>
        have := h3 y List.mem_cons_self
        omega
  have w := whole_ok (v := x.bk.n) (a := 1) (b := 6) b.n1 (by have := b.n2; omega) m
  have s1 := stands_ok b.up (lu (by omega) b.up b.upI) b.upI m
  have s2 := stands_ok b.deaf (lu (by omega) b.deaf b.deafI) b.deafI m
  have s3 := edges_fine (no := no) (by have := h.few; omega) b.es b.esI m
  have s4 := below_fine h.below ha hl m
  obtain ⟨nm, ⟨n, up, deaf, es⟩, be⟩ := x
  dsimp only at w s1 s2 s3 s4
  unfold s_need_kind b_need_kind
  simp [Book.p, n_need_kind, List.replicate_succ, w, s1, s2, s3, s4]
end DL

set_option Elab.async false
set_option linter.all false
set_option maxRecDepth 100000
set_option maxHeartbeats 2000000
/-! Plain part m: houses, names, edges. -/
noncomputable section
namespace DL
open PySem PySem.Spec PyProof.Rows L2
theorem word_fine {w : Str} (h : w ∈ wds) (m : Mem) : s_is_word [.p (.str w)] m = .ok (.p (.bl true)) m := by
  have key : b_is_word [.p (.str w), .und] m = .rt (.p (.bl true)) m := by
    simp only [wds, List.mem_cons, List.not_mem_nil, or_false] at h
    rcases h with rfl | rfl | rfl | rfl <;> rfl
  show fin m.length (b_is_word [.p (.str w), .und] m) = _
  rw [key]
  show ER.ok (D.p (P.bl true)) (m.take m.length) = _
  rw [List.take_length]
theorem pair_fine {x : Rm} (h : x.name ∈ wds) (m : Mem) : s_is_pair [.p x.p] m = .ok (.p (.bl true)) m := by
  have t1 : s_is_tuple_of [.p x.p, .p (.int 2)] m = .ok (.p (.bl true)) m := tuple_of_ok (xs := [.str x.name, .tup [x.bk.p, .tup (x.below.map P.str)]]) (k := 2) rfl m
  have t2 : s_is_tuple_of [.p (.tup [x.bk.p, .tup (x.below.map P.str)]), .p (.int 2)] m = .ok (.p (.bl true)) m := tuple_of_ok (k := 2) rfl m
  have t3 : s_is_tuple_of [.p x.bk.p, .p (.int 4)] m = .ok (.p (.bl true)) m := tuple_of_ok (xs := [.int x.bk.n, numsT x.bk.up, numsT x.bk.deaf, .tup (x.bk.es.map Edge.p)]) (k := 4) rfl m
  have w := word_fine h m
  have x0 : pIx x.p (.int 0) = some (.str x.name) := rfl
  have x1 : pIx x.p (.int 1) = some (.tup [x.bk.p, .tup (x.below.map P.str)]) := rfl
  have x2 : pIx (.tup [x.bk.p, .tup (x.below.map P.str)]) (.int 0) = some x.bk.p := rfl
  unfold s_is_pair b_is_pair
  simp [n_is_pair, t1, t2, t3, w, x0, x1, x2]
theorem house_fine {hs : List Rm} (h : HouseOk hs) (m : Mem) : s_need_house [.p (.tup (hs.map Rm.p))] m = .ok (.p (.tup (hs.map Rm.p))) m := by
  obtain ⟨hv, ehv⟩ : ∃ hv, P.tup (hs.map Rm.p) = hv := ⟨_, rfl⟩
  have l1 := h.l1
  have l2 := h.l2
  have hr : ∀ (i : Nat) (h1 : i + 1 < (hs.map Rm.p).length), ∃ a b, pIx ((hs.map Rm.p)[i]'(by omega)) (.int 0) = some a ∧ pIx ((hs.map Rm.p)[i + 1]) (.int 0) = some b ∧ pLt a b = some (.bl true) := by
    intro i h1
    rw [List.getElem_map, List.getElem_map]
    rw [List.length_map] at h1
    refine ⟨_, _, rfl, rfl, ?_⟩
    have q := List.pairwise_iff_getElem.mp h.asc i (i + 1) (by simp; omega) (by simpa using h1) (by omega)
    rw [List.getElem_map, List.getElem_map] at q
    show some (P.bl (decide (_ < _))) = _
    rw [decide_eq_true (show (hs[i]).name.cps.toList < (hs[i + 1]).name.cps.toList from q)]
  obtain ⟨δ', e1, d2, d3, rfl⟩ := for_inv (m := m) (g := gT 2 (gsC (gN 2) (gsC (gN 3) gsN))) (fb := sIfS (sOrB (sNotB (sB (sFn s_is_pair (sCons (sName 3) sNil)))) (sAndB (sB (sOp pGt (sName 2) (sC (.int 0)))) (sNotB (sB (sOp pLt (sOp pIx (sOp pIx (sName 0) (sOp pSub (sName 2) (sC (.int 1)))) (sC (.int 0))) (sOp pIx (sName 3) (sC (.int 0)))))))) sBad sNx) (fun δ => ∃ d2 d3, δ = [.p hv, .und, d2, d3, .und, .und]) (xs := numd (hs.map Rm.p)) (δ := [.p hv, .und, .und, .und, .und, .und]) ⟨.und, .und, rfl⟩ (fun x hx δ ⟨d2, d3, hδ⟩ => by
    obtain ⟨i, hi, rfl⟩ := mem_numd hx
    subst hδ
    refine ⟨[.p hv, .und, .p (.int i), .p ((hs.map Rm.p)[i]), .und, .und], by simp, ⟨_, _, rfl⟩, ?_⟩
    have hi' : i < hs.length := by simpa using hi
    have ef : s_is_pair [.p ((hs.map Rm.p)[i])] m = .ok (.p (.bl true)) m := by
      rw [List.getElem_map]
      exact pair_fine (h.mem _ (List.mem_map_of_mem (List.getElem_mem hi'))) m
    obtain ⟨y, hy⟩ : ∃ y, (hs.map Rm.p)[i] = y := ⟨_, rfl⟩
    cases i with
    | zero =>
      rw [hy] at ef ⊢
      simp [ef]
    | succ j =>
      obtain ⟨a, b, ra, rb, r⟩ := hr j hi
      have x1 : pIx hv (.int (((j + 1 : Nat) : Int) - 1)) = some ((hs.map Rm.p)[j]'(by omega)) := by
        have : (((j + 1 : Nat) : Int) - 1) = (j : Int) := by omega
        rw [this, ← ehv]
        exact ix_tup (by omega)
      rw [hy] at ef rb ⊢
      obtain ⟨z, hz⟩ : ∃ z : Int, ((j + 1 : Nat) : Int) = z := ⟨_, rfl⟩
      have hz0 : z > 0 := by omega
      rw [hz] at x1 ⊢
      obtain ⟨u, hu⟩ : ∃ u, (hs.map Rm.p)[j]'(by omega) = u := ⟨_, rfl⟩
      rw [hu] at x1 ra
      simp [ef, x1, ra, rb, r, hz0])
  have c2 : sLc (sIt (sName 0)) (gT 2 (gsC (gN 4) (gsC (gN 5) gsN))) sYes (sName 4) [4, 5] [.p hv, .und, d2, d3, .und, .und] m = .ok (.p (.lst ((hs.map Rm.name).map P.str))) m := by
    rw [e_Lc, sit_tup (sName 0) (xs := hs.map Rm.p) (m' := m) (by simp [← ehv])]
    have mk := mkL_ok (xs := (hs.map Rm.name).map P.str) (m := m) (by simp; omega)
    show (compL _ _ _ _ _ _ _).bindN mkL = _
    rw [← mk]
    refine Eq.trans (congrArg (fun z => ER.bindN z mkL) (a₂ := ER.ok ((hs.map Rm.name).map P.str) m) ?_) rfl
    refine (compL_pure (fun _ => true) (fun x => match x with
      | .tup [n, _] => n
      | x => x) ?_).trans ?_
    · intro x hx
      obtain ⟨y, hy, rfl⟩ := List.mem_map.mp hx
      exact ⟨[.p hv, .und, d2, d3, .p (.str y.name), .p (.tup [y.bk.p, .tup (y.below.map P.str)])], by simp [Rm.p], by simp, fun _ => by simp [Rm.p]⟩
    · rw [List.filter_eq_self.mpr (by simp), List.map_map, List.map_map]
      rfl
  obtain ⟨δ', e3, d4, d5, d6, rfl⟩ := for_inv (m := m) (g := gT 2 (gsC (gN 2) (gsC (gT 2 (gsC (gN 4) (gsC (gN 5) gsN))) gsN))) (fb := sDrop (sFn s_need_kind (sCons (sName 2) (sCons (sName 5) (sCons (sName 1) sNil))))) (fun δ => ∃ d4 d5 d6, δ = [.p hv, .p (.lst ((hs.map Rm.name).map P.str)), d4, d3, d5, d6]) (xs := numd (hs.map Rm.p)) (δ := [.p hv, .p (.lst ((hs.map Rm.name).map P.str)), d2, d3, .und, .und]) ⟨_, _, _, rfl⟩ (fun x hx δ ⟨d4, d5, d6, hδ⟩ => by
    obtain ⟨i, hi, rfl⟩ := mem_numd hx
    subst hδ
    have hi' : i < hs.length := by simpa using hi
    have kf := kind_fine (h.ok _ (List.getElem_mem hi')) h.asc (by simp; omega) i m
    refine ⟨[.p hv, .p (.lst ((hs.map Rm.name).map P.str)), .p (.int i), d3, .p (.str (hs[i]).name), .p (.tup [(hs[i]).bk.p, .tup ((hs[i]).below.map P.str)])], by simp [Rm.p], ⟨_, _, _, rfl⟩, ?_⟩
    obtain ⟨z, hz⟩ : ∃ z : Int, (i : Int) = z := ⟨_, rfl⟩
    rw [hz] at kf ⊢
    simp at kf ⊢
    simp [kf])
  have i0 : isTup hv = some true := by rw [← ehv]; rfl
  have g0 : gLen [hv] = some (.int hs.length) := by rw [← ehv]; simp
  have it := itE_tup (fa := sName 0) (δ := [.p hv, .und, .und, .und, .und, .und]) (m := m) (m' := m) (xs := hs.map Rm.p) (by simp [← ehv])
  have it2 := itE_tup (fa := sName 0) (δ := [.p hv, .p (.lst ((hs.map Rm.name).map P.str)), d2, d3, .und, .und]) (m := m) (m' := m) (xs := hs.map Rm.p) (by simp [← ehv])
  have q1 : (1 : Int) ≤ (hs.length : Int) := by omega
  have q2 : (hs.length : Int) ≤ 3 := by omega
  rw [ehv]
  clear ehv l1 l2
  obtain ⟨z, hz⟩ : ∃ z : Int, (hs.length : Int) = z := ⟨_, rfl⟩
  rw [hz] at g0 q1 q2
  obtain ⟨nms, hnms⟩ : ∃ z, (hs.map Rm.name).map P.str = z := ⟨_, rfl⟩
  rw [hnms] at c2 e3 it2
  unfold s_need_house b_need_house
  simp [-e_ItE, -e_Lc, n_need_house, List.replicate_succ, it, it2, e1, c2, e3, i0, g0, q1, q2]
end DL

set_option Elab.async false
set_option linter.all false
set_option maxRecDepth 100000
set_option maxHeartbeats 1000000
/-! Plain part ma: items, what they lead to, what is reached. -/
noncomputable section
namespace DL
open PySem PySem.Spec PyProof.Rows L2
instance : DecidableEq Edge := fun a b => if h : a.b = b.b ∧ a.q = b.q ∧ a.w = b.w ∧ a.e = b.e then .isTrue (by cases a; cases b; simp at h; obtain ⟨h1, h2, h3, h4⟩ := h; subst h1 h2 h3 h4; rfl) else .isFalse fun e => h (by subst e; simp)
theorem has_strs : ∀ q : List Str, ((q.map P.str).all fun x => Ty.str.has x) = true
  | [] => rfl
  | x :: q => by rw [List.map_cons, List.all_cons, has_strs q]; rfl
instance : Enc Edge where
  p := Edge.p
  ty := .tup [.int, .seq .str, .str, .int]
  has := fun a => by simp [Edge.p, txs, Ty.has, Ty.hasL]
  inj := fun {a b} h => by
    obtain ⟨b1, q1, w1, e1⟩ := a
    obtain ⟨b2, q2, w2, e2⟩ := b
    simp only [Edge.p, txs, P.tup.injEq, List.cons.injEq, P.int.injEq, P.str.injEq] at h
    obtain ⟨h1, h2, h3, h4, _⟩ := h
    have h2' : q1 = q2 := List.map_inj_right (f := P.str) (fun x y e => by injection e) |>.mp h2
    subst h1 h2' h3 h4
    rfl
structure Item where
  s : Int
  h : Bool
  r : Bool
  l : Int
instance : DecidableEq Item := fun a b => if h : a.s = b.s ∧ a.h = b.h ∧ a.r = b.r ∧ a.l = b.l then .isTrue (by cases a; cases b; simp at h; obtain ⟨h1, h2, h3, h4⟩ := h; subst h1 h2 h3 h4; rfl) else .isFalse fun e => h (by subst e; simp)
def Item.p (i : Item) : P := .tup [.int i.s, .bl i.h, .bl i.r, .int i.l]
instance : Enc Item where
  p := Item.p
  ty := .tup [.int, .bl, .bl, .int]
  has := fun a => by simp [Item.p, Ty.has, Ty.hasL]
  inj := fun {a b} h => by
    obtain ⟨b1, q1, w1, e1⟩ := a
    obtain ⟨b2, q2, w2, e2⟩ := b
    simp only [Item.p, P.tup.injEq, List.cons.injEq, P.int.injEq, P.bl.injEq] at h
    obtain ⟨h1, h2, h3, h4, _⟩ := h
    subst h1 h2 h3 h4
    rfl
theorem item_key : (Enc.ty Item).key = true := by decide
theorem item_ord : (Enc.ty Item).ord = true := by decide
theorem edge_key : (Enc.ty Edge).key = true := by decide
theorem edge_ord : (Enc.ty Edge).ord = true := by decide
/-- at first -/
def beg : Item := ⟨0, false, false, 0⟩
/-- an edge leads on -/
def canE (over : Bool) (i : Item) (e : Edge) : Bool :=
  decide (e.b = i.s) && !(decide (("over" : Str) ∈ e.q) && !over) && !(decide (("rung" : Str) ∈ e.q) && !i.r) &&
    (if e.w = "hold" then !i.h else if e.w = "give" then i.h else if e.w = "hush" then i.r else true)
def ledL (bk : Book) (i : Item) (e : Edge) : Int := if e.e ∈ bk.up then 3 else if ("calm" : Str) ∈ e.q then min i.l 1 else if ("unheld" : Str) ∈ e.q then min i.l 2 else i.l
def ledE (bk : Book) (i : Item) (e : Edge) : Item := ⟨e.e, decide (e.w = "hold") || (i.h && decide (e.w ≠ "give")), i.r && decide (e.w ≠ "hush"), ledL bk i e⟩
def Item.bell (i : Item) : Item := { i with r := true }
/-- what an item leads to, by what -/
def nexts (bk : Book) (over : Bool) (i : Item) : List (Option Edge × Item) :=
  ((bk.es.filter fun e => canE over i e).map fun e => (some e, ledE bk i e)) ++ (if i.s ∈ bk.deaf then [] else [(none, i.bell)])
inductive Reach (bk : Book) (over : Bool) (bs : List Item) : Item → Prop where
  | base {i : Item} : i ∈ bs → Reach bk over bs i
  | step {i j : Item} {e : Option Edge} : Reach bk over bs i → (e, j) ∈ nexts bk over i → Reach bk over bs j
theorem Reach.mono {bk : Book} {over : Bool} {bs cs : List Item} (h : ∀ i ∈ bs, Reach bk over cs i) {i : Item} (r : Reach bk over bs i) : Reach bk over cs i := by
  induction r with
  | base hb => exact h _ hb
  | step _ e ih => exact .step ih e
/-- those of a book -/
structure Item.In (bk : Book) (i : Item) : Prop where
  s0 : 0 ≤ i.s
  s1 : i.s < bk.n
  l0 : 0 ≤ i.l
  l1 : i.l ≤ 3
theorem beg_in {bk : Book} (h : 1 ≤ bk.n) : beg.In bk := ⟨by decide, by show (0 : Int) < bk.n; omega, by decide, by decide⟩
theorem ledL_in (bk : Book) {i : Item} (h0 : 0 ≤ i.l) (h1 : i.l ≤ 3) (e : Edge) : 0 ≤ ledL bk i e ∧ ledL bk i e ≤ 3 := by
  unfold ledL
  split
  · omega
  · split
    · omega
    · split <;> omega
theorem next_in {bk : Book} {k : Nat} (ok : bk.Ok k) {over : Bool} {i j : Item} {e : Option Edge} (h : i.In bk) (n : (e, j) ∈ nexts bk over i) : j.In bk := by
  unfold nexts at n
  rcases List.mem_append.mp n with n | n
  · obtain ⟨x, hx, ex⟩ := List.mem_map.mp n
    cases ex
    have ox := ok.esI x (List.mem_filter.mp hx).1
    have l := ledL_in bk h.l0 h.l1 x
    exact ⟨ox.e0, ox.e1, l.1, l.2⟩
  · split at n
    · cases n
    · have e' := List.mem_singleton.mp n
      cases e'
      exact ⟨h.s0, h.s1, h.l0, h.l1⟩
theorem reach_in {bk : Book} {k : Nat} (ok : bk.Ok k) {over : Bool} {bs : List Item} (hb : ∀ i ∈ bs, i.In bk) {i : Item} (r : Reach bk over bs i) : i.In bk := by
  induction r with
  | base h => exact hb _ h
  | step _ n ih => exact next_in ok ih n
theorem nodup_le {α : Type} [DecidableEq α] : ∀ {xs ys : List α}, xs.Nodup → (∀ x ∈ xs, x ∈ ys) → xs.length ≤ ys.length
  | [], _, _, _ => Nat.zero_le _
  | x :: xs, ys, nd, h => by
    have nd' := List.nodup_cons.mp nd
    have hx : x ∈ ys := h x List.mem_cons_self
    have ih := nodup_le (ys := ys.erase x) nd'.2 fun z hz => (List.mem_erase_of_ne fun e => nd'.1 (by rw [← e]; exact hz)).mpr (h z (List.mem_cons_of_mem _ hz))
    rw [List.length_erase_of_mem hx] at ih
    have : 0 < ys.length := List.length_pos_of_mem hx
    rw [List.length_cons]
    omega
/-- all items with stands below six -/
def allI : List Item := ([0, 1, 2, 3, 4, 5] : List Int).flatMap fun s => [false, true].flatMap fun h => [false, true].flatMap fun r => ([0, 1, 2, 3] : List Int).map fun l => ⟨s, h, r, l⟩
theorem in_all {bk : Book} (h6 : bk.n ≤ 6) {i : Item} (h : i.In bk) : i ∈ allI := by
  obtain ⟨s, hh, r, l⟩ := i
  obtain ⟨a, b, c, d⟩ := h
  have a : 0 ≤ s := a
  have b : s < bk.n := b
  have c : 0 ≤ l := c
  have d : l ≤ 3 := d
  have hs : s = 0 ∨ s = 1 ∨ s = 2 ∨ s = 3 ∨ s = 4 ∨ s = 5 := by omega
  have hl : l = 0 ∨ l = 1 ∨ l = 2 ∨ l = 3 := by omega
  unfold allI
  simp only [List.mem_flatMap, List.mem_map, Item.mk.injEq]
  refine ⟨s, ?_, hh, ?_, r, ?_, l, ?_, rfl, rfl, rfl, rfl⟩
  · simp; omega
  · cases hh <;> simp
  · cases r <;> simp
  · simp; omega
theorem few {bk : Book} (h6 : bk.n ≤ 6) {ks : List Item} (nd : ks.Nodup) (h : ∀ i ∈ ks, i.In bk) : ks.length ≤ 96 := by
  have : ks.length ≤ allI.length := nodup_le nd fun i hi => in_all h6 (h i hi)
  have e : allI.length = 96 := by decide
  omega
/-- an enumeration of what is reached -/
structure IsEn (bk : Book) (over : Bool) (bs ks : List Item) : Prop where
  nd : ks.Nodup
  mem : ∀ i, i ∈ ks ↔ Reach bk over bs i
theorem perm_of {α : Type} [DecidableEq α] {as bs : List α} (ha : as.Nodup) (hb : bs.Nodup) (h : ∀ x, x ∈ as ↔ x ∈ bs) : as.Perm bs := (List.perm_ext_iff_of_nodup ha hb).mpr h
open Classical in
/-- what is reached, ascending -/
def cl (bk : Book) (over : Bool) (bs : List Item) : List Item := if h : ∃ ks, IsEn bk over bs ks then sortZ (choose h) else []
theorem cl_eq {bk : Book} {over : Bool} {bs ks : List Item} (h : IsEn bk over bs ks) : cl bk over bs = sortZ ks := by
  unfold cl
  have hx : ∃ ks, IsEn bk over bs ks := ⟨ks, h⟩
  rw [dif_pos hx]
  have c := Classical.choose_spec hx
  exact sortZ_eq item_ord (perm_of c.nd h.nd fun x => (c.mem x).trans (h.mem x).symm)
theorem cl_mem {bk : Book} {over : Bool} {bs ks : List Item} (h : IsEn bk over bs ks) {i : Item} : i ∈ cl bk over bs ↔ Reach bk over bs i := by
  rw [cl_eq h, sortZ_mem]; exact h.mem i
theorem cl_asc {bk : Book} {over : Bool} {bs ks : List Item} (h : IsEn bk over bs ks) : (cl bk over bs).Pairwise (fun a b => eLt a b = true) := by
  rw [cl_eq h]; exact sortZ_asc item_ord h.nd
end DL

set_option Elab.async false
set_option linter.all false
set_option maxRecDepth 100000
set_option maxHeartbeats 1000000
/-! Plain part mb: can_lead, led, ways_on. -/
noncomputable section
namespace DL
open PySem PySem.Spec PyProof.Rows L2
@[simp] theorem in_txs (n : Bool) (x : Str) (q : List Str) : pIn n (.str x) (txs q) = some (.bl (xor n (decide (x ∈ q)))) := en_inT n x q
@[simp] theorem in_numsT (n : Bool) (x : Int) (q : List Int) : pIn n (.int x) (numsT q) = some (.bl (xor n (decide (x ∈ q)))) := en_inT n x q
@[simp] theorem ne_int (i j : Int) : pNe (.int i) (.int j) = some (.bl (!decide (i = j))) := en_ne i j
@[simp] theorem eq_str (i j : Str) : pEq (.str i) (.str j) = some (.bl (decide (i = j))) := en_eq i j
@[simp] theorem ne_str (i j : Str) : pNe (.str i) (.str j) = some (.bl (!decide (i = j))) := en_ne i j
@[simp] theorem eq_bl (i j : Bool) : pEq (.bl i) (.bl j) = some (.bl (decide (i = j))) := en_eq i j
@[simp] theorem ix4_0 (a b c d : P) : pIx (.tup [a, b, c, d]) (.int 0) = some a := id rfl
@[simp] theorem ix4_1 (a b c d : P) : pIx (.tup [a, b, c, d]) (.int 1) = some b := id rfl
@[simp] theorem ix4_2 (a b c d : P) : pIx (.tup [a, b, c, d]) (.int 2) = some c := id rfl
@[simp] theorem ix4_3 (a b c d : P) : pIx (.tup [a, b, c, d]) (.int 3) = some d := id rfl
@[simp] theorem ix2_0 (a b : P) : pIx (.tup [a, b]) (.int 0) = some a := id rfl
@[simp] theorem ix2_1 (a b : P) : pIx (.tup [a, b]) (.int 1) = some b := id rfl
@[simp] theorem ixI_0 (i : Item) : pIx i.p (.int 0) = some (.int i.s) := id rfl
@[simp] theorem ixI_1 (i : Item) : pIx i.p (.int 1) = some (.bl i.h) := id rfl
@[simp] theorem ixI_2 (i : Item) : pIx i.p (.int 2) = some (.bl i.r) := id rfl
@[simp] theorem ixI_3 (i : Item) : pIx i.p (.int 3) = some (.int i.l) := id rfl
@[simp] theorem ixB_0 (b : Book) : pIx b.p (.int 0) = some (.int b.n) := id rfl
@[simp] theorem ixB_1 (b : Book) : pIx b.p (.int 1) = some (numsT b.up) := id rfl
@[simp] theorem ixB_2 (b : Book) : pIx b.p (.int 2) = some (numsT b.deaf) := id rfl
@[simp] theorem ixB_3 (b : Book) : pIx b.p (.int 3) = some (.tup (b.es.map Edge.p)) := id rfl
@[simp] theorem gMin2_i (a b : Int) : gMin2 [.int a, .int b] = some (.int (min a b)) := by
  have e : (if b < a then b else a) = min a b := by omega
  show some (P.int (if b < a then b else a)) = _
  rw [e]
/-! ### a def's own objects -/
@[simp] theorem own_at0 (m : Mem) (x : Option MO) (r : Mem) : (m ++ x :: r)[m.length]? = some x := by simp
@[simp] theorem own_set0 (m : Mem) (x y : Option MO) (r : Mem) : (m ++ x :: r).set m.length y = m ++ y :: r := by simp
@[simp] theorem own_take (m r : Mem) : (m ++ r).take m.length = m := by simp
theorem get_dK3 (a b c : Bool) (w : Str) : pGet2 (.dK [.inr "hold", .inr "give", .inr "hush"] [.bl a, .bl b, .bl c]) (.str w) (.bl true) = some (.bl (if w = "hold" then a else if w = "give" then b else if w = "hush" then c else true)) := by
  unfold pGet2
  show some ((lookK (.inr w) _ _).getD _) = _
  unfold lookK
  by_cases h1 : w = "hold"
  · subst h1; rfl
  · rw [if_neg (fun z => h1 (by injection z with z; exact z.symm)), if_neg h1]
    unfold lookK
    by_cases h2 : w = "give"
    · subst h2; rfl
    · rw [if_neg (fun z => h2 (by injection z with z; exact z.symm)), if_neg h2]
      unfold lookK
      by_cases h3 : w = "hush"
      · subst h3; rfl
      · rw [if_neg (fun z => h3 (by injection z with z; exact z.symm)), if_neg h3]
        rfl
theorem mkD3 (a b c : Bool) (m : Mem) : mkD [(.str "hold", .bl a), (.str "give", .bl b), (.str "hush", .bl c)] m = .ok (.ref m.length) (m ++ [some (.dK [.inr "hold", .inr "give", .inr "hush"] [.bl a, .bl b, .bl c])]) := by
  unfold mkD
  have e : keysOf [(P.str "hold", P.bl a), (.str "give", .bl b), (.str "hush", .bl c)] = some [.inr "hold", .inr "give", .inr "hush"] := rfl
  rw [e]
  dsimp only
  rw [if_pos ⟨by decide, by simp⟩]
  rfl
theorem can_lead_ok (i : Item) (e : Edge) (over : Bool) (m : Mem) : s_can_lead [.p i.p, .p e.p, .p (.bl over)] m = .ok (.p (.bl (canE over i e))) m := by
  obtain ⟨b, q, w, z⟩ := e
  obtain ⟨s, h, r, l⟩ := i
  unfold s_can_lead b_can_lead
  have c : canE over ⟨s, h, r, l⟩ ⟨b, q, w, z⟩ = (decide (b = s) && !(decide (("over" : Str) ∈ q) && !over) && !(decide (("rung" : Str) ∈ q) && !r) && (if w = "hold" then !h else if w = "give" then h else if w = "hush" then r else true)) := rfl
  rw [c]
  obtain ⟨g, hg⟩ : ∃ g, (if w = "hold" then !h else if w = "give" then h else if w = "hush" then r else true) = g := ⟨_, rfl⟩
  have k : pGet2 (.dK [.inr "hold", .inr "give", .inr "hush"] [.bl (!h), .bl h, .bl r]) (.str w) (.bl true) = some (.bl g) := by rw [get_dK3, hg]
  rw [hg]
  by_cases h1 : b = s
  · by_cases h2 : ("over" : Str) ∈ q
    · by_cases h3 : ("rung" : Str) ∈ q
      · cases over <;> cases r <;> simp [List.replicate_succ, n_can_lead, Edge.p, Item.p, h1, h2, h3, mkD3, k]
      · cases over <;> simp [List.replicate_succ, n_can_lead, Edge.p, Item.p, h1, h2, h3, mkD3, k]
    · by_cases h3 : ("rung" : Str) ∈ q
      · cases r <;> simp [List.replicate_succ, n_can_lead, Edge.p, Item.p, h1, h2, h3, mkD3, k]
      · simp [List.replicate_succ, n_can_lead, Edge.p, Item.p, h1, h2, h3, mkD3, k]
  · simp [List.replicate_succ, n_can_lead, Edge.p, Item.p, h1]
theorem led_ok (bk : Book) (i : Item) (e : Edge) (m : Mem) : s_led [.p bk.p, .p i.p, .p e.p] m = .ok (.p (ledE bk i e).p) m := by
  obtain ⟨b, q, w, z⟩ := e
  obtain ⟨s, h, r, l⟩ := i
  unfold s_led b_led
  have fin : ∀ L : Int, fin m.length ((SR.nx [.p bk.p, .p (.tup [.int s, .bl h, .bl r, .int l]), .p (.tup [.int b, txs q, .str w, .int z]), .p (.int b), .p (txs q), .p (.str w), .p (.int z), .p (.int s), .p (.bl h), .p (.bl r), .p (.int L)] m).seq (sRet (sTup (sCons (sName 6) (sCons (sOrV (sOp pEq (sName 5) (sC (.str "hold"))) (sAndV (sName 8) (sOp pNe (sName 5) (sC (.str "give"))))) (sCons (sAndV (sName 9) (sOp pNe (sName 5) (sC (.str "hush")))) (sCons (sName 10) sNil))))))) =
      .ok (.p (Item.p ⟨z, decide (w = "hold") || (h && decide (w ≠ "give")), r && decide (w ≠ "hush"), L⟩)) m := by
    intro L
    by_cases h1 : w = "hold" <;> cases h <;> cases r <;> simp [h1, Item.p] <;> by_cases h2 : w = "give" <;> simp [h2]
  have fin' := fin
  by_cases h1 : z ∈ bk.up
  · have e1 : ledE bk ⟨s, h, r, l⟩ ⟨b, q, w, z⟩ = ⟨z, decide (w = "hold") || (h && decide (w ≠ "give")), r && decide (w ≠ "hush"), 3⟩ := by simp [ledE, ledL, h1]
    rw [e1, ← fin' 3]
    simp [List.replicate_succ, n_led, Edge.p, Item.p, h1]
  · by_cases h2 : ("calm" : Str) ∈ q
    · have e1 : ledE bk ⟨s, h, r, l⟩ ⟨b, q, w, z⟩ = ⟨z, decide (w = "hold") || (h && decide (w ≠ "give")), r && decide (w ≠ "hush"), min l 1⟩ := by simp [ledE, ledL, h1, h2]
      rw [e1, ← fin' (min l 1)]
      simp [List.replicate_succ, n_led, Edge.p, Item.p, h1, h2]
    · by_cases h3 : ("unheld" : Str) ∈ q
      · have e1 : ledE bk ⟨s, h, r, l⟩ ⟨b, q, w, z⟩ = ⟨z, decide (w = "hold") || (h && decide (w ≠ "give")), r && decide (w ≠ "hush"), min l 2⟩ := by simp [ledE, ledL, h1, h2, h3]
        rw [e1, ← fin' (min l 2)]
        simp [List.replicate_succ, n_led, Edge.p, Item.p, h1, h2, h3]
      · have e1 : ledE bk ⟨s, h, r, l⟩ ⟨b, q, w, z⟩ = ⟨z, decide (w = "hold") || (h && decide (w ≠ "give")), r && decide (w ≠ "hush"), l⟩ := by simp [ledE, ledL, h1, h2, h3]
        rw [e1, ← fin' l]
        simp [List.replicate_succ, n_led, Edge.p, Item.p, h1, h2, h3]
def oe : Option Edge → P
  | none => .non
  | some e => e.p
def wayP (w : Option Edge × Item) : P := .tup [oe w.1, w.2.p]
theorem sit_lstP (fa : FE) {δ : DS} {m m' : Mem} {xs : List P} (h : fa δ m = .ok (.p (.tup xs)) m') : sIt fa δ m = .ok ⟨xs, fun _ => true⟩ m' := by
  rw [e_It, h]
  rfl
theorem append_M {m r : Mem} {xs : List P} {x : P} (hl : xs.length < 16777216) : onLst fAppend (.ref m.length) [.p x] (m ++ some (.lst xs) :: r) = some (.non, m ++ some (.lst (xs ++ [x])) :: r) := by
  unfold onLst
  simp only [own_at0, allP_cons, allP_nil, Option.map_some]
  unfold fAppend
  dsimp only
  rw [if_pos hl]
  simp
theorem ways_on_ok {bk : Book} (h24 : bk.es.length ≤ 24) (i : Item) (over : Bool) (m : Mem) : s_ways_on [.p bk.p, .p i.p, .p (.bl over)] m = .ok (.p (.lst ((nexts bk over i).map wayP))) m := by
  unfold s_ways_on b_ways_on
  have c := compL_map (g := gN 4) (ft := sB (sFn s_can_lead (sCons (sName 1) (sCons (sName 4) (sCons (sName 2) sNil))))) (fe := sTup (sCons (sName 4) (sCons (sFn s_led (sCons (sName 0) (sCons (sName 1) (sCons (sName 4) sNil)))) sNil))) (δ := [.p bk.p, .p i.p, .p (.bl over), .und, .und]) (m := m) (ok := fun _ => true) Edge.p wayP (fun e => canE over i e) (fun e => (some e, ledE bk i e)) rfl (xs := bk.es) fun e he =>
    ⟨[.p bk.p, .p i.p, .p (.bl over), .und, .p e.p], by simp, by simp [can_lead_ok], fun _ => by simp [led_ok, wayP, oe]⟩
  have hl : (((bk.es.filter fun e => canE over i e).map fun e => (some e, ledE bk i e)).map wayP).length ≤ 24 := by
    rw [List.length_map, List.length_map]
    exact Nat.le_trans (List.length_filter_le _ _) h24
  obtain ⟨L, hL⟩ : ∃ L, ((bk.es.filter fun e => canE over i e).map fun e => ((some e, ledE bk i e) : Option Edge × Item)).map wayP = L := ⟨_, rfl⟩
  rw [hL] at c hl
  have e1 : (nexts bk over i).map wayP = L ++ (if i.s ∈ bk.deaf then [] else [wayP (none, i.bell)]) := by
    rw [← hL]
    unfold nexts
    rw [List.map_append]
    congr 1
    split <;> rfl
  rw [e1]
  have mk : mkLM L m = .ok (.ref m.length) (m ++ [some (.lst L)]) := mkLM_le (by omega)
  have ap : onLst fAppend (.ref m.length) [.p (.tup [.non, .tup [.int i.s, .bl i.h, .bl true, .int i.l]])] (m ++ [some (.lst L)]) = some (.non, m ++ [some (.lst (L ++ [wayP (none, i.bell)]))]) := append_M (by omega)
  by_cases hd : i.s ∈ bk.deaf
  · simp [List.replicate_succ, n_ways_on, c, mk, hd, fzD, fzO]
  · simp [List.replicate_succ, n_ways_on, c, mk, hd, ap, fzD, fzO]
end DL

set_option Elab.async false
set_option linter.all false
set_option maxRecDepth 100000
set_option maxHeartbeats 2000000
/-! Plain part mc: what a closure comes to. -/
noncomputable section
namespace DL
open PySem PySem.Spec PyProof.Rows L2
/-! ### names and memory -/
theorem get_of_view {d : D} {m : Mem} {x : P} (h : view d m = some x) : d.get m = .ok d m := by
  cases d with
  | p y => rfl
  | ref i => rfl
  | und => cases h
theorem view_app {d : D} {m r : Mem} {x : P} (h : view d m = some x) : view d (m ++ r) = some x := by
  cases d with
  | p y => exact h
  | ref i =>
    rw [view_ref] at h ⊢
    have hi : i < m.length := by
      by_cases hi : i < m.length
      · exact hi
      · rw [List.getElem?_eq_none (by omega)] at h; cases h
    rw [List.getElem?_append_left hi]
    exact h
  | und => cases h
section
variable {m r : Mem} {x y z : Option MO}
theorem own_at1 : (m ++ x :: (r ++ [y]))[m.length + (r.length + 1)]? = some y := by
  rw [List.getElem?_append_right (by omega)]
  have : m.length + (r.length + 1) - m.length = r.length + 1 := by omega
  rw [this]
  simp
theorem own_set1 : (m ++ x :: (r ++ [y])).set (m.length + (r.length + 1)) z = m ++ x :: (r ++ [z]) := by
  rw [List.set_append_right _ _ (by omega)]
  have : m.length + (r.length + 1) - m.length = r.length + 1 := by omega
  rw [this]
  simp
end
/-! ### dicts and lists of things -/
section
variable {α : Type} [I : Enc α]
theorem nkL_nodup (hk : (Enc.ty α).key = true) : ∀ {as : List α}, as.Nodup → (P.nkL (as.map Enc.p)).Nodup
  | [], _ => List.nodup_nil
  | a :: as, nd => by
    have nd' := List.nodup_cons.mp nd
    rw [List.map_cons, P.nkL]
    refine List.nodup_cons.mpr ⟨fun z => ?_, nkL_nodup hk nd'.2⟩
    have key : ∀ bs : List α, (en a).nk ∈ P.nkL (bs.map Enc.p) → a ∈ bs := by
      intro bs
      induction bs with
      | nil => intro h; cases h
      | cons b bs ih =>
        intro h
        rw [List.map_cons, P.nkL] at h
        rcases List.mem_cons.mp h with h | h
        · rw [Enc.inj (Ty.nk _ _ _ hk (Enc.has a) (Enc.has b) h)]; exact List.mem_cons_self
        · exact List.mem_cons_of_mem _ (ih h)
    exact nd'.1 (key as z)
theorem pairsOf_map {β : Type} (f g : β → P) : ∀ as : List β, pairsOf (as.map fun a => P.tup [f a, g a]) = some (as.map fun a => (f a, g a))
  | [] => rfl
  | a :: as => by rw [List.map_cons, pairsOf, pairsOf_map f g as]; rfl
theorem en_dict (hk : (Enc.ty α).key = true) (hT : ∀ a : α, keyT (en a) = true) (g : α → P) {as : List α} (nd : as.Nodup) (hl : as.length < 16777216) :
    gDict true [.lst (as.map fun a => P.tup [en a, g a])] = some (.dT (as.map Enc.p) (as.map g)) := by
  show (pairsOf _).bind _ = _
  rw [pairsOf_map]
  show dOf true _ = _
  unfold dOf
  rw [if_pos rfl, if_pos]
  · simp only [List.map_map]
    rfl
  · refine ⟨?_, ?_, by rw [List.length_map]; exact hl⟩
    · rw [List.all_map, List.all_eq_true]
      exact fun a _ => hT a
    · rw [List.map_map]
      exact nkL_nodup hk nd
theorem ne_lst_nil (as : List α) : pNe (.lst (as.map Enc.p)) (.lst []) = some (.bl (!as.isEmpty)) := by
  unfold pNe
  rw [if_pos]
  · cases as <;> simp [P.eqv, P.eqvL]
  · refine ⟨?_, by simp [P.plain, P.plainL]⟩
    unfold P.fit
    rw [P.plain, en_plainL, Bool.true_and, P.dep]
    have := en_depL as
    exact decide_eq_true (by omega)
/-- a new entry is put -/
theorem en_put [DecidableEq α] (hk : (Enc.ty α).key = true) {a : α} {as' : List P} (ht : en a = .tup as') {ks : List α} {xs : List P} {v : P} (hn : a ∉ ks) (hl : ks.length < 16777216) :
    setO (.dT (ks.map Enc.p) xs) (en a) v = some (.dT ((ks ++ [a]).map Enc.p) (xs ++ [v])) := by
  have kd := en_keyD hk a
  have nn : (en a).nk ∉ P.nkL (ks.map Enc.p) := by
    intro z
    have key : ∀ bs : List α, (en a).nk ∈ P.nkL (bs.map Enc.p) → a ∈ bs := by
      intro bs
      induction bs with
      | nil => intro h; cases h
      | cons b bs ih =>
        intro h
        rw [List.map_cons, P.nkL] at h
        rcases List.mem_cons.mp h with h | h
        · rw [Enc.inj (Ty.nk _ _ _ hk (Enc.has a) (Enc.has b) h)]; exact List.mem_cons_self
        · exact List.mem_cons_of_mem _ (ih h)
    exact hn (key ks z)
  have na : ((P.nkL (ks.map Enc.p)).any fun j => decide (j = (en a).nk)) = false := by
    cases q : ((P.nkL (ks.map Enc.p)).any fun j => decide (j = (en a).nk)) with
    | false => rfl
    | true =>
      rw [List.any_eq_true] at q
      obtain ⟨j, hj, ej⟩ := q
      exact absurd (by rw [← of_decide_eq_true ej]; exact hj) nn
  rw [ht] at kd na nn
  rw [ht]
  unfold setO
  dsimp only
  rw [if_pos ⟨kd, by rw [List.length_map]; exact hl⟩, na, if_neg (by decide), putA_new nn, List.map_append, List.map_cons, List.map_nil]
  show some (MO.dT (_ ++ [P.tup as']) _) = some (MO.dT (_ ++ [en a]) _)
  rw [ht]
end
theorem item_tup (i : Item) : en i = .tup [.int i.s, .bl i.h, .bl i.r, .int i.l] := rfl
theorem item_kT (i : Item) : keyT (en i) = true := by
  have := en_keyD item_key i
  rw [item_tup] at this ⊢
  exact this
def trP : Option (Item × Option Edge) → P
  | none => .non
  | some (j, e) => .tup [j.p, oe e]
/-- how each was come to -/
structure Trace (bk : Book) (over : Bool) (bs ks : List Item) (tr : List (Option (Item × Option Edge))) : Prop where
  len : tr.length = ks.length
  how : ∀ (n : Nat) (i : Item), ks[n]? = some i → (tr[n]? = some none ∧ i ∈ bs) ∨ (i ∉ bs ∧ ∃ (j : Item) (e : Option Edge) (k : Nat), tr[n]? = some (some (j, e)) ∧ k < n ∧ ks[k]? = some j ∧ (e, i) ∈ nexts bk over j)
/-- while it goes on: F are to be looked at -/
structure Cls (bk : Book) (over : Bool) (bs : List Item) (ks : List Item) (tr : List (Option (Item × Option Edge))) (open_ : Item → Prop) : Prop where
  nd : ks.Nodup
  tr : Trace bk over bs ks tr
  base : ∀ i ∈ bs, i ∈ ks
  reach : ∀ i ∈ ks, Reach bk over bs i
  shut : ∀ i ∈ ks, open_ i ∨ ∀ e j, (e, j) ∈ nexts bk over i → j ∈ ks
theorem Cls.en {bk : Book} {over : Bool} {bs ks : List Item} {tr : List (Option (Item × Option Edge))} (c : Cls bk over bs ks tr fun _ => False) : IsEn bk over bs ks := by
  refine ⟨c.nd, fun i => ⟨c.reach i, fun r => ?_⟩⟩
  induction r with
  | base h => exact c.base _ h
  | step _ n ih =>
    rcases c.shut _ ih with z | z
    · exact z.elim
    · exact z _ _ n
theorem Cls.wk {bk : Book} {over : Bool} {bs ks : List Item} {tr : List (Option (Item × Option Edge))} {p q : Item → Prop} (c : Cls bk over bs ks tr p) (h : ∀ i ∈ ks, p i → q i ∨ ∀ e j, (e, j) ∈ nexts bk over i → j ∈ ks) : Cls bk over bs ks tr q :=
  ⟨c.nd, c.tr, c.base, c.reach, fun i hi => (c.shut i hi).elim (fun z => h i hi z) .inr⟩
theorem Cls.put {bk : Book} {over : Bool} {bs ks : List Item} {tr : List (Option (Item × Option Edge))} {p : Item → Prop} (c : Cls bk over bs ks tr p) {i j : Item} {e : Option Edge} (hi : i ∈ ks) (n : (e, j) ∈ nexts bk over i) (hj : j ∉ ks) : Cls bk over bs (ks ++ [j]) (tr ++ [some (i, e)]) (fun x => p x ∨ x = j) := by
  refine ⟨?_, ⟨by simp [c.tr.len], fun n' x hx => ?_⟩, fun x hx => List.mem_append_left _ (c.base x hx), fun x hx => ?_, fun x hx => ?_⟩
  · rw [List.nodup_append]
    exact ⟨c.nd, by simp, fun a ha b hb e => hj (by rw [← List.mem_singleton.mp hb, ← e]; exact ha)⟩
  · have hl := c.tr.len
    by_cases hn : n' < ks.length
    · rw [List.getElem?_append_left hn] at hx
      rcases c.tr.how n' x hx with ⟨h1, h2⟩ | ⟨h0, a, b, k, h1, h2, h3, h4⟩
      · exact .inl ⟨by rw [List.getElem?_append_left (by omega)]; exact h1, h2⟩
      · exact .inr ⟨h0, a, b, k, by rw [List.getElem?_append_left (by omega)]; exact h1, h2, by rw [List.getElem?_append_left (by omega)]; exact h3, h4⟩
    · rw [List.getElem?_append_right (by omega)] at hx
      have hz : n' - ks.length = 0 := by
        cases q : n' - ks.length with
        | zero => rfl
        | succ k => rw [q] at hx; simp at hx
      rw [hz] at hx
      have ex : j = x := by simpa using hx
      subst ex
      have en' : n' = ks.length := by omega
      subst en'
      obtain ⟨k, hk, ek⟩ := List.mem_iff_getElem.mp hi
      refine .inr ⟨fun z => hj (c.base _ z), i, e, k, ?_, hk, ?_, n⟩
      · rw [List.getElem?_append_right (by omega), hl]; simp
      · rw [List.getElem?_append_left hk, List.getElem?_eq_getElem hk, ek]
  · rcases List.mem_append.mp hx with hx | hx
    · exact c.reach x hx
    · rw [List.mem_singleton.mp hx]; exact .step (c.reach i hi) n
  · rcases List.mem_append.mp hx with hx | hx
    · rcases c.shut x hx with z | z
      · exact .inl (.inl z)
      · exact .inr fun e' j' h' => List.mem_append_left _ (z e' j' h')
    · exact .inl (.inr (List.mem_singleton.mp hx))
end DL

set_option Elab.async false
set_option linter.all false
set_option maxRecDepth 100000
set_option maxHeartbeats 2000000
/-! Plain part md: closure. -/
noncomputable section
namespace DL
open PySem PySem.Spec PyProof.Rows L2
section
variable {bk : Book} {over : Bool} {bs : List Item} {m : Mem}
/-- what is wanted of the memory within: the dict, then others -/
abbrev cM (m : Mem) (ks : List Item) (tr : List (Option (Item × Option Edge))) (r : Mem) : Mem := m ++ some (.dT (ks.map Item.p) (tr.map trP)) :: r
def clI (bk : Book) (over : Bool) (bs : List Item) (m : Mem) : Nat → DS → Mem → Prop := fun n δ μ => ∃ ks tr F r df d5 d6 d7 d8, δ = [.p bk.p, .p (.lst (bs.map Item.p)), .p (.bl over), .ref m.length, df, d5, d6, d7, d8] ∧ μ = cM m ks tr r ∧
  view df μ = some (.lst (F.map Item.p)) ∧ (∀ i ∈ F, i ∈ ks) ∧ Cls bk over bs ks tr (· ∈ F) ∧ n = 2 * (97 - ks.length) + (if F = [] then 0 else 1)
/-- over the front -/
def clJ (bk : Book) (over : Bool) (bs : List Item) (m : Mem) (k0 : Nat) (r : Mem) (df : D) : List Item → DS → Mem → Prop := fun F δ μ => ∃ ks tr L d6 d7 d8, δ = [.p bk.p, .p (.lst (bs.map Item.p)), .p (.bl over), .ref m.length, df, .ref (m.length + (r.length + 1)), d6, d7, d8] ∧
  μ = cM m ks tr (r ++ [some (.lst (L.map Item.p))]) ∧ (∀ i ∈ F, i ∈ ks) ∧ (∀ i ∈ L, i ∈ ks) ∧ Cls bk over bs ks tr (fun i => i ∈ F ∨ i ∈ L) ∧ k0 ≤ ks.length ∧ (L ≠ [] → k0 < ks.length) ∧ L.length ≤ ks.length
/-- over the ways on of i -/
def clK (bk : Book) (over : Bool) (bs : List Item) (m : Mem) (k0 : Nat) (r : Mem) (df : D) (i : Item) (F : List Item) : List (Option Edge × Item) → DS → Mem → Prop := fun ws δ μ => ∃ ks tr L d7 d8, δ = [.p bk.p, .p (.lst (bs.map Item.p)), .p (.bl over), .ref m.length, df, .ref (m.length + (r.length + 1)), .p i.p, d7, d8] ∧
  μ = cM m ks tr (r ++ [some (.lst (L.map Item.p))]) ∧ (∀ i ∈ F, i ∈ ks) ∧ (∀ i ∈ L, i ∈ ks) ∧ Cls bk over bs ks tr (fun x => x = i ∨ x ∈ F ∨ x ∈ L) ∧ k0 ≤ ks.length ∧ (L ≠ [] → k0 < ks.length) ∧ L.length ≤ ks.length ∧ i ∈ ks ∧
  (∀ w ∈ ws, w ∈ nexts bk over i) ∧ ∀ e j, (e, j) ∈ nexts bk over i → (e, j) ∈ ws ∨ j ∈ ks
theorem gL_items (F : List Item) : gList [.lst (F.map Item.p)] = some (F.map Item.p) := rfl
theorem in_came (j : Item) (ks : List Item) (tr : List (Option (Item × Option Edge))) (h : tr.length = ks.length) : pIn true j.p (.dT (ks.map Item.p) (tr.map trP)) = some (.bl (!decide (j ∈ ks))) := by
  have := en_inD item_key true j (item_tup j) ks (tr.map trP) (by simp [h])
  rw [xor_t] at this
  exact this
theorem put_came {j i : Item} {e : Option Edge} {ks : List Item} {tr : List (Option (Item × Option Edge))} (hj : j ∉ ks) (hl : ks.length < 16777216) (m r : Mem) :
    setM (.ref m.length) (.p j.p) (.p (.tup [i.p, oe e])) (cM m ks tr r) = some (cM m (ks ++ [j]) (tr ++ [some (i, e)]) r) := by
  have h := en_put item_key (item_tup j) (xs := tr.map trP) (v := .tup [i.p, oe e]) hj hl
  have h' : setO (.dT (ks.map Item.p) (tr.map trP)) j.p (.tup [i.p, oe e]) = some (.dT ((ks ++ [j]).map Item.p) (tr.map trP ++ [.tup [i.p, oe e]])) := h
  unfold setM
  simp only [own_at0, h', Option.map_some, own_set0]
  have e2 : tr.map trP ++ [P.tup [i.p, oe e]] = (tr ++ [some (i, e)]).map trP := by simp [trP]
  rw [e2]
theorem app_later {j : Item} {L : List Item} (hl : L.length < 16777216) (m r : Mem) (x : Option MO) :
    onLst fAppend (.ref (m.length + (r.length + 1))) [.p j.p] (m ++ x :: (r ++ [some (.lst (L.map Item.p))])) = some (.non, m ++ x :: (r ++ [some (.lst ((L ++ [j]).map Item.p))])) := by
  unfold onLst
  simp only [own_at1, allP_cons, allP_nil, Option.map_some]
  unfold fAppend
  dsimp only
  rw [if_pos (by rw [List.length_map]; exact hl)]
  simp only [Option.map_some, own_set1, List.map_append]
  rfl
theorem closure_ok {k : Nat} (ok : bk.Ok k) (h6 : bk.n ≤ 6) (h24 : bk.es.length ≤ 24) (nb : bs.Nodup) (hb : ∀ i ∈ bs, i.In bk) (m : Mem) :
    ∃ ks tr, s_closure [.p bk.p, .p (.lst (bs.map Item.p)), .p (.bl over)] m = .ok (.p (.dT (ks.map Item.p) (tr.map trP))) m ∧ Cls bk over bs ks tr fun _ => False := by
  have hb96 := few h6 nb hb
  have small : ∀ {ks tr p}, Cls bk over bs ks tr p → ks.length ≤ 96 := fun c => few h6 c.nd fun i hi => reach_in ok hb (c.reach i hi)
  have key : wE (s_closure [.p bk.p, .p (.lst (bs.map Item.p)), .p (.bl over)] m) (fun _ _ => False) fun d m' => ∃ ks tr, d = .p (.dT (ks.map Item.p) (tr.map trP)) ∧ m' = m ∧ Cls bk over bs ks tr fun _ => False := by
    unfold s_closure b_closure
    have c1 : compL (gN 6) sYes (elt (sTup (sCons (sName 6) (sCons (sC .non) sNil)))) (fun _ => true) [.p bk.p, .p (.lst (bs.map Item.p)), .p (.bl over), .und, .und, .und, .und, .und, .und] (bs.map Item.p) m = .ok (((bs.filter fun _ => true).map id).map fun i => .tup [i.p, .non]) m :=
      compL_map Item.p (fun i => .tup [i.p, .non]) (fun _ => true) id rfl fun i _ => ⟨[.p bk.p, .p (.lst (bs.map Item.p)), .p (.bl over), .und, .und, .und, .p i.p, .und, .und], by simp, by simp, fun _ => by simp⟩
    have f1 : ((bs.filter fun _ => true).map id) = bs := by simp
    rw [f1] at c1
    have g1 : gDict true [.lst (bs.map fun i => .tup [i.p, .non])] = some (.dT (bs.map Item.p) (bs.map fun _ => .non)) := en_dict item_key item_kT (fun _ => .non) nb (by omega)
    have k1 : mkL (bs.map fun i => P.tup [i.p, .non]) m = .ok (.p (.lst (bs.map fun i => .tup [i.p, .non]))) m := mkL_ok (by rw [List.length_map]; omega)
    have g2 : ∀ xs, gList [.dT (bs.map Item.p) xs] = some (bs.map Item.p) := fun _ => rfl
    simp [List.replicate_succ, n_closure, c1, k1, g1, g2]
    refine wS_while (clI bk over bs m) ?_ (2 * (97 - bs.length) + (if bs = [] then 0 else 1)) _ _ ⟨bs, bs.map fun _ => none, bs, [], .p (.lst (bs.map Item.p)), .und, .und, .und, .und, rfl, by simp [cM, trP], rfl, fun i hi => hi, ?_, rfl⟩
    · rintro n δ μ ⟨ks, tr, F, r, df, d5, d6, d7, d8, rfl, rfl, hv, hF, c, rfl⟩
      have gd := get_of_view hv
      have e0 : pNe (.lst (F.map Item.p)) (.lst []) = some (.bl (!F.isEmpty)) := ne_lst_nil F
      simp [gd, hv, e0]
      by_cases hF0 : F = []
      · subst hF0
        simp [fzD, fzO]
        exact ⟨ks, tr, ⟨rfl, rfl⟩, c.wk fun i _ h => by cases h⟩
      · have hne : F.isEmpty = false := by cases F <;> simp at hF0 ⊢
        have hv2 := view_app (r := [some (.lst [])]) hv
        have e1 : cM m ks tr r ++ [some (.lst [])] = cM m ks tr (r ++ [some (.lst [])]) := by simp [cM]
        rw [e1] at hv2
        have gd2 := get_of_view hv2
        simp [hF0, cM, gd2, hv2, gL_items]
        refine wS_forE Item.p (clJ bk over bs m ks.length r df) (fun _ _ _ _ => rfl) ?_ ?_ F _ _ ⟨ks, tr, [], d6, d7, d8, rfl, rfl, hF, (fun i h => by cases h), c.wk fun i _ h => .inl (.inl h), Nat.le_refl _, fun h => absurd rfl h, Nat.zero_le _⟩
        · rintro i F' δ' μ' ⟨ks', tr', L, e6, e7, e8, rfl, rfl, hF', hL, c', hk0, hL0, hLl⟩
          refine ⟨[.p bk.p, .p (.lst (bs.map Item.p)), .p (.bl over), .ref m.length, df, .ref (m.length + (r.length + 1)), .p i.p, e7, e8], by simp, ?_⟩
          simp [ways_on_ok h24]
          have hi : i ∈ ks' := hF' i List.mem_cons_self
          refine wS_forE wayP (clK bk over bs m ks.length r df i F') (fun _ _ _ _ => rfl) ?_ ?_ (nexts bk over i) _ _ ⟨ks', tr', L, e7, e8, rfl, rfl, fun x hx => hF' x (List.mem_cons_of_mem _ hx), hL, c'.wk fun x _ h => ?_, hk0, hL0, hLl, hi, fun w h => h, fun e j h => .inl h⟩
          · rintro ⟨e, j⟩ ws δ2 μ2 ⟨ks2, tr2, L2, f7, f8, rfl, rfl, hF2, hL2, c2, hk2, hL02, hLl2, hi2, hws, hcl⟩
            refine ⟨[.p bk.p, .p (.lst (bs.map Item.p)), .p (.bl over), .ref m.length, df, .ref (m.length + (r.length + 1)), .p i.p, .p (oe e), .p j.p], by simp [wayP], ?_⟩
            have s2 := small c2
            have w1 := hws (e, j) List.mem_cons_self
            have ic := in_came j ks2 tr2 c2.tr.len
            by_cases hj : j ∈ ks2
            · simp [cM, ic, hj]
              refine ⟨ks2, tr2, L2, _, _, rfl, rfl, hF2, hL2, c2, hk2, hL02, hLl2, hi2, fun w h => hws w (List.mem_cons_of_mem _ h), fun e' j' h => ?_⟩
              rcases hcl e' j' h with z | z
              · rcases List.mem_cons.mp z with z | z
                · cases z; exact .inr hj
                · exact .inl z
              · exact .inr z
            · have pc := put_came (i := i) (e := e) (tr := tr2) hj (by omega) m (r ++ [some (.lst (L2.map Item.p))])
              have al := app_later (j := j) (L := L2) (by omega) m r (some (.dT ((ks2 ++ [j]).map Item.p) ((tr2 ++ [some (i, e)]).map trP)))
              simp only [cM] at pc
              have lv : view (.ref (m.length + (r.length + 1))) (m ++ some (MO.dT ((ks2 ++ [j]).map Item.p) ((tr2 ++ [some (i, e)]).map trP)) :: (r ++ [some (.lst (L2.map Item.p))])) = some (.lst (L2.map Item.p)) := by
                rw [view_ref, own_at1]
                rfl
              obtain ⟨ks3, hks3⟩ : ∃ ks3, ks2 ++ [j] = ks3 := ⟨_, rfl⟩
              obtain ⟨tr3, htr3⟩ : ∃ tr3, tr2 ++ [some (i, e)] = tr3 := ⟨_, rfl⟩
              obtain ⟨L3, hL3⟩ : ∃ L3, L2 ++ [j] = L3 := ⟨_, rfl⟩
              rw [hks3, htr3] at pc lv al
              rw [hL3] at al
              simp only [view_ref] at lv
              simp [cM, ic, hj, pc, al, lv]
              subst hks3 htr3 hL3
              refine ⟨_, _, L2 ++ [j], _, _, rfl, rfl, fun x hx => List.mem_append_left _ (hF2 x hx), ?_, (c2.put hi2 w1 hj).wk fun x _ h => ?_, by simp; omega, fun _ => by simp; omega, by simp; omega, List.mem_append_left _ hi2, fun w h => hws w (List.mem_cons_of_mem _ h), fun e' j' h => ?_⟩
              · intro x hx
                rcases List.mem_append.mp hx with hx | hx
                · exact List.mem_append_left _ (hL2 x hx)
                · exact List.mem_append_right _ hx
              · rcases h with (h | h | h) | h
                · exact .inl (.inl h)
                · exact .inl (.inr (.inl h))
                · exact .inl (.inr (.inr (List.mem_append_left _ h)))
                · exact .inl (.inr (.inr (List.mem_append_right _ (by rw [h]; exact List.mem_singleton.mpr rfl))))
              · rcases hcl e' j' h with z | z
                · rcases List.mem_cons.mp z with z | z
                  · cases z; exact .inr (List.mem_append_right _ (List.mem_singleton.mpr rfl))
                  · exact .inl z
                · exact .inr (List.mem_append_left _ z)
          · rintro δ2 μ2 ⟨ks2, tr2, L2, f7, f8, rfl, rfl, hF2, hL2, c2, hk2, hL02, hLl2, hi2, hws, hcl⟩
            refine ⟨ks2, tr2, L2, _, _, _, rfl, rfl, hF2, hL2, c2.wk fun x _ h => ?_, hk2, hL02, hLl2⟩
            rcases h with h | h | h
            · subst h
              refine .inr fun e j n => ?_
              rcases hcl e j n with z | z
              · cases z
              · exact z
            · exact .inl (.inl h)
            · exact .inl (.inr h)
          · rcases h with h | h
            · rcases List.mem_cons.mp h with h | h
              · exact .inl (.inl h)
              · exact .inl (.inr (.inl h))
            · exact .inl (.inr (.inr h))
        · rintro δ' μ' ⟨ks', tr', L, e6, e7, e8, rfl, rfl, hF', hL, c', hk0, hL0, hLl⟩
          have s' := small c'
          have s0 := small c
          simp
          refine ⟨_, ?_, ks', tr', L, r ++ [some (.lst (L.map Item.p))], .ref (m.length + (r.length + 1)), _, _, _, _, rfl, rfl, by rw [view_ref, cM, own_at1]; rfl, hL, c'.wk fun x _ h => ?_, rfl⟩
          · rw [if_neg hF0]
            by_cases hLn : L = []
            · rw [if_pos hLn]; omega
            · have := hL0 hLn
              rw [if_neg hLn]; omega
          · rcases h with h | h
            · cases h
            · exact .inl h
    · refine ⟨nb, ⟨by simp, fun n i h => ?_⟩, fun i h => h, fun i h => .base h, fun i h => .inl h⟩
      have hn : n < bs.length := (List.getElem?_eq_some_iff.mp h).1
      exact .inl ⟨by rw [List.getElem?_map, h]; rfl, List.mem_of_getElem? h⟩
  obtain ⟨a, m', e, ks, tr, rfl, rfl, c⟩ := wE_to key
  exact ⟨ks, tr, e, c⟩
end
end DL

set_option Elab.async false
set_option linter.all false
set_option maxRecDepth 100000
set_option maxHeartbeats 2000000
/-! Plain part mg: the four sets of a book. -/
noncomputable section
namespace DL
open PySem PySem.Spec PyProof.Rows L2
theorem append_L {m r : Mem} {xs : List P} {x : P} (hl : xs.length < 16777216) : onLst fAppend (.ref m.length) [.p x] (m ++ some (.lst xs) :: r) = some (.non, m ++ some (.lst (xs ++ [x])) :: r) := append_M hl
@[simp] theorem cat_tup (xs ys : List P) (h : xs.length + ys.length ≤ 16777216) : pAdd (.tup xs) (.tup ys) = some (.tup (xs ++ ys)) := if_pos h
/-! ### truth values are joined -/
section
variable {p : Prop} [Decidable p] (b : Bool) (m : Mem)
@[simp] theorem mAndV : (if p then ER.ok (D.p (.bl b)) m else ER.ok (D.p (.bl false)) m) = .ok (.p (.bl (decide p && b))) m := by by_cases h : p <;> simp [h]
@[simp] theorem mOrV : (if p then ER.ok (D.p (.bl true)) m else ER.ok (D.p (.bl b)) m) = .ok (.p (.bl (decide p || b))) m := by by_cases h : p <;> simp [h]
@[simp] theorem mAnd : (if p then ER.ok b m else ER.ok false m) = .ok (decide p && b) m := by by_cases h : p <;> simp [h]
@[simp] theorem mOr : (if p then ER.ok true m else ER.ok b m) = .ok (decide p || b) m := by by_cases h : p <;> simp [h]
@[simp] theorem mInt (x y : Int) : (if p then ER.ok (D.p (.int x)) m else ER.ok (D.p (.int y)) m) = .ok (.p (.int (if p then x else y))) m := by by_cases h : p <;> simp [h]
end
theorem reach_congr {bk : Book} {over : Bool} {bs cs : List Item} (h : ∀ i, i ∈ bs ↔ i ∈ cs) {i : Item} : Reach bk over bs i ↔ Reach bk over cs i := ⟨fun r => r.mono fun j hj => .base ((h j).mp hj), fun r => r.mono fun j hj => .base ((h j).mpr hj)⟩
theorem cl_congr {bk : Book} {over : Bool} {bs cs : List Item} (h : ∀ i, i ∈ bs ↔ i ∈ cs) : cl bk over bs = cl bk over cs := by
  have e : IsEn bk over bs = IsEn bk over cs := by
    funext ks
    exact propext ⟨fun q => ⟨q.nd, fun i => (q.mem i).trans (reach_congr h)⟩, fun q => ⟨q.nd, fun i => (q.mem i).trans (reach_congr h).symm⟩⟩
  unfold cl
  rw [e]
def frees (ks : List Item) : List Item := ks.filter fun i => !i.h
def quiets (bk : Book) (ks : List Item) : List Item := ks.filter fun i => !decide (i.s ∈ bk.up)
/-- the four sets, each ascending -/
def full (bk : Book) : List Item := cl bk true [beg]
def sets4 (bk : Book) : List (List Item) := [cl bk false [beg], cl bk false (quiets bk (frees (full bk))), cl bk false (frees (full bk)), full bk]
def itsP (s : List Item) : P := .tup (s.map Item.p)
def setsP (bk : Book) : P := .tup ((sets4 bk).map itsP)
def tabP (hs : List Rm) : P := .tup (hs.map fun x => .tup [.str x.name, setsP x.bk])
theorem beg_p : k_BEGIN = beg.p := rfl
/-- four closures, as they are come to -/
structure Four (bk : Book) (k0 k1 k2 k3 : List Item) (t0 t1 t2 t3 : List (Option (Item × Option Edge))) : Prop where
  c0 : Cls bk false [beg] k0 t0 fun _ => False
  c1 : Cls bk false (quiets bk (frees k3)) k1 t1 fun _ => False
  c2 : Cls bk false (frees k3) k2 t2 fun _ => False
  c3 : Cls bk true [beg] k3 t3 fun _ => False
theorem Four.eq {bk : Book} {k0 k1 k2 k3 : List Item} {t0 t1 t2 t3 : List (Option (Item × Option Edge))} (f : Four bk k0 k1 k2 k3 t0 t1 t2 t3) : [k0, k1, k2, k3].map sortZ = sets4 bk := by
  have e3 : full bk = sortZ k3 := cl_eq f.c3.en
  have m : ∀ i, i ∈ frees k3 ↔ i ∈ frees (full bk) := fun i => by unfold frees; rw [List.mem_filter, List.mem_filter, e3, sortZ_mem]
  have q : ∀ i, i ∈ quiets bk (frees k3) ↔ i ∈ quiets bk (frees (full bk)) := fun i => by unfold quiets; rw [List.mem_filter, List.mem_filter, m]
  unfold sets4
  rw [cl_eq f.c0.en, ← cl_congr q, cl_eq f.c1.en, ← cl_congr m, cl_eq f.c2.en, e3]
  rfl
abbrev clD (ks : List Item) (tr : List (Option (Item × Option Edge))) : P := .dT (ks.map Item.p) (tr.map trP)
theorem en_inI (n : Bool) (s : Int) (as : List Int) : pIn n (.int s) (numsT as) = some (.bl (xor n (decide (s ∈ as)))) := en_inT n s as
theorem sets_by_ok {bk : Book} {k : Nat} (ok : bk.Ok k) (h6 : bk.n ≤ 6) (h24 : bk.es.length ≤ 24) (m : Mem) :
    ∃ k0 k1 k2 k3 t0 t1 t2 t3, s_sets_by [.p bk.p] m = .ok (.p (.tup [clD k0 t0, clD k1 t1, clD k2 t2, clD k3 t3])) m ∧ Four bk k0 k1 k2 k3 t0 t1 t2 t3 := by
  have hbeg : ∀ i ∈ [beg], i.In bk := fun i hi => by rw [List.mem_singleton.mp hi]; exact beg_in ok.n1
  obtain ⟨k3, t3, e3, c3⟩ := closure_ok (over := true) ok h6 h24 (bs := [beg]) (by simp) hbeg m
  obtain ⟨k0, t0, e0, c0⟩ := closure_ok (over := false) ok h6 h24 (bs := [beg]) (by simp) hbeg m
  have in3 : ∀ i ∈ k3, i.In bk := fun i hi => reach_in ok hbeg (c3.reach i hi)
  obtain ⟨k2, t2, e2, c2⟩ := closure_ok (over := false) ok h6 h24 (bs := frees k3) (c3.nd.filter _) (fun i hi => in3 i (List.mem_filter.mp hi).1) m
  obtain ⟨k1, t1, e1, c1⟩ := closure_ok (over := false) ok h6 h24 (bs := quiets bk (frees k3)) ((c3.nd.filter _).filter _) (fun i hi => in3 i (List.mem_filter.mp (List.mem_filter.mp hi).1).1) m
  refine ⟨k0, k1, k2, k3, t0, t1, t2, t3, ?_, ⟨c0, c1, c2, c3⟩⟩
  have len3 : k3.length ≤ 96 := few h6 c3.nd in3
  have lf : (frees k3).length ≤ 96 := by have := List.length_filter_le (fun i : Item => !i.h) k3; unfold frees; omega
  have lq : (quiets bk (frees k3)).length ≤ 96 := by have := List.length_filter_le (fun i : Item => !decide (i.s ∈ bk.up)) (frees k3); unfold quiets; omega
  have f1 : compL (gN 4) (sNotB (sB (sOp pIx (sName 4) (sC (.int 1))))) (elt (sName 4)) (fun _ => true) [.p bk.p, .p (clD k3 t3), .und, .und, .und] (k3.map Item.p) m = .ok ((frees k3).map Item.p) m := by
    have := compL_map (g := gN 4) (ft := sNotB (sB (sOp pIx (sName 4) (sC (.int 1))))) (fe := sName 4) (ok := fun _ => true) (δ := [.p bk.p, .p (clD k3 t3), .und, .und, .und]) (m := m) Item.p Item.p (fun i => !i.h) id rfl (xs := k3) fun i _ => ⟨[.p bk.p, .p (clD k3 t3), .und, .und, .p i.p], by simp, by simp, fun _ => by simp⟩
    simpa [frees] using this
  have f2 : compL (gN 4) (sB (sOp (pIn true) (sOp pIx (sName 4) (sC (.int 0))) (sOp pIx (sName 0) (sC (.int 1))))) (elt (sName 4)) (fun _ => true) [.p bk.p, .p (clD k3 t3), .p (.lst ((frees k3).map Item.p)), .und, .und] ((frees k3).map Item.p) m = .ok ((quiets bk (frees k3)).map Item.p) m := by
    have := compL_map (g := gN 4) (ft := sB (sOp (pIn true) (sOp pIx (sName 4) (sC (.int 0))) (sOp pIx (sName 0) (sC (.int 1))))) (fe := sName 4) (ok := fun _ => true) (δ := [.p bk.p, .p (clD k3 t3), .p (.lst ((frees k3).map Item.p)), .und, .und]) (m := m) Item.p Item.p (fun i => !decide (i.s ∈ bk.up)) id rfl (xs := frees k3) fun i _ => ⟨[.p bk.p, .p (clD k3 t3), .p (.lst ((frees k3).map Item.p)), .und, .p i.p], by simp, by simp [en_inI], fun _ => by simp⟩
    simpa [quiets] using this
  have g1 := mkL_ok (xs := (frees k3).map Item.p) (m := m) (by rw [List.length_map]; omega)
  have g2 := mkL_ok (xs := (quiets bk (frees k3)).map Item.p) (m := m) (by rw [List.length_map]; omega)
  have b : [beg].map Item.p = [k_BEGIN] := rfl
  rw [b] at e3 e0
  generalize (frees k3).map Item.p = F at *
  generalize (quiets bk (frees k3)).map Item.p = Q at *
  unfold s_sets_by b_sets_by
  simp [List.replicate_succ, n_sets_by, e3, e0, e2, e1, f1, f2, g1, g2]
theorem cl_en {bk : Book} {over : Bool} {bs : List Item} {k : Nat} (ok : bk.Ok k) (h6 : bk.n ≤ 6) (h24 : bk.es.length ≤ 24) (nb : bs.Nodup) (hb : ∀ i ∈ bs, i.In bk) : IsEn bk over bs (cl bk over bs) := by
  obtain ⟨ks, tr, _, c⟩ := closure_ok (over := over) ok h6 h24 nb hb []
  have e := c.en
  rw [cl_eq e]
  exact ⟨(sortZ_perm ks).nodup_iff.mpr e.nd, fun i => sortZ_mem.trans (e.mem i)⟩
end DL

set_option Elab.async false
set_option linter.all false
set_option maxRecDepth 100000
set_option maxHeartbeats 2000000
/-! Plain part mh: the table of a house, told twice. -/
noncomputable section
namespace DL
open PySem PySem.Spec PyProof.Rows L2
theorem dcL_map {α : Type} (en k v : α → P) {g : FG} {fk fv : FE} {ok : Mem → Bool} {δ : DS} {m : Mem} (hok : ok m = true) : ∀ {xs : List α}, (∀ x ∈ xs, ∃ δ1, g (.p (en x)) δ = some δ1 ∧ fk δ1 m = .ok (.p (k x)) m ∧ fv δ1 m = .ok (.p (v x)) m) → dcL g fk fv ok δ (xs.map en) m = .ok (xs.map fun x => (k x, v x)) m
  | [], _ => by rw [List.map_nil, dcL, if_pos hok]; rfl
  | x :: xs, h => by
    obtain ⟨δ1, h1, h2, h3⟩ := h x List.mem_cons_self
    have ih := dcL_map en k v hok (xs := xs) fun y hy => h y (List.mem_cons_of_mem _ hy)
    rw [List.map_cons, dcL, if_pos hok, h1]
    simp [h2, h3, ih]
theorem keysOf_str {α : Type} (k : α → Str) (v : α → P) : ∀ xs : List α, keysOf (xs.map fun x => (.str (k x), v x)) = some (xs.map fun x => Sum.inr (k x))
  | [] => rfl
  | x :: xs => by
    rw [List.map_cons, keysOf, keysOf_str k v xs]
    rfl
theorem dOf_str {α : Type} (k : α → Str) (v : α → P) {xs : List α} (nd : (xs.map k).Nodup) (hl : xs.length < 16777216) : dOf false (xs.map fun x => (.str (k x), v x)) = some (.dK (xs.map fun x => Sum.inr (k x)) (xs.map v)) := by
  unfold dOf
  rw [if_neg (by decide), keysOf_str]
  dsimp only
  rw [if_pos, List.map_map]
  · rfl
  · refine ⟨?_, by rw [List.length_map]; exact hl⟩
    have : (xs.map fun x => (Sum.inr (k x) : Key)) = (xs.map k).map Sum.inr := by rw [List.map_map]; rfl
    rw [this]
    exact List.Pairwise.map _ (fun a b h e => h (Sum.inr.inj e)) nd
theorem zip_str {α : Type} (k : α → Str) (v : α → P) : ∀ xs : List α, List.zipWith (fun k x => P.tup [keyP k, x]) (xs.map fun x => Sum.inr (k x)) (xs.map v) = xs.map fun x => .tup [.str (k x), v x]
  | [] => rfl
  | x :: xs => by rw [List.map_cons, List.map_cons, List.zipWith_cons_cons, zip_str k v xs]; rfl
theorem choose_mem {α β : Type} [Nonempty β] {xs : List α} {Q : α → β → Prop} (h : ∀ x ∈ xs, ∃ y, Q x y) : ∃ F : α → β, ∀ x ∈ xs, Q x (F x) := by
  classical
  refine ⟨fun x => if hx : x ∈ xs then (h x hx).choose else Classical.choice inferInstance, fun x hx => ?_⟩
  dsimp only
  rw [dif_pos hx]
  exact (h x hx).choose_spec
/-- four closures -/
structure Qd where
  (k0 k1 k2 k3 : List Item) (t0 t1 t2 t3 : List (Option (Item × Option Edge)))
instance : Nonempty Qd := ⟨⟨[], [], [], [], [], [], [], []⟩⟩
def Qd.l (q : Qd) : List (List Item × List (Option (Item × Option Edge))) := [(q.k0, q.t0), (q.k1, q.t1), (q.k2, q.t2), (q.k3, q.t3)]
def Qd.p (q : Qd) : P := .tup (q.l.map fun z => clD z.1 z.2)
def Qd.Of (bk : Book) (q : Qd) : Prop := Four bk q.k0 q.k1 q.k2 q.k3 q.t0 q.t1 q.t2 q.t3
theorem Qd.eq {bk : Book} {q : Qd} (h : q.Of bk) : (q.l.map fun z => itsP (sortZ z.1)) = (sets4 bk).map itsP := by
  rw [← Four.eq h]
  rfl
theorem names_nd {hs : List Rm} (h : HouseOk hs) : (hs.map Rm.name).Nodup := h.asc.imp fun a e => by subst e; exact List.lt_irrefl _ a
theorem sets_in_ok {hs : List Rm} (h : HouseOk hs) (m : Mem) : ∃ F : Rm → Qd, s_sets_in [.p (.tup (hs.map Rm.p))] m = .ok (.p (.dK (hs.map fun x => Sum.inr x.name) (hs.map fun x => (F x).p))) m ∧ ∀ x ∈ hs, (F x).Of x.bk := by
  obtain ⟨F, hF⟩ := choose_mem (xs := hs) (Q := fun x q => s_sets_by [.p x.bk.p] m = .ok (.p (Qd.p q)) m ∧ q.Of x.bk) fun x hx => by
    obtain ⟨k0, k1, k2, k3, t0, t1, t2, t3, e, f⟩ := sets_by_ok (h.ok x hx).bk (h.ok x hx).bk.n2 (h.ok x hx).few m
    exact ⟨⟨k0, k1, k2, k3, t0, t1, t2, t3⟩, e, f⟩
  refine ⟨F, ?_, fun x hx => (hF x hx).2⟩
  have l2 := h.l2
  have f1 := dcL_map (g := gT 2 (gsC (gN 1) (gsC (gT 2 (gsC (gN 2) (gsC (gN 3) gsN))) gsN))) (fk := sName 1) (fv := sFn s_sets_by (sCons (sName 2) sNil)) (ok := fun _ => true) (δ := [.p (.tup (hs.map Rm.p)), .und, .und, .und]) (m := m) Rm.p (fun x => .str x.name) (fun x => (F x).p) rfl (xs := hs) fun x hx => ⟨[.p (.tup (hs.map Rm.p)), .p (.str x.name), .p x.bk.p, .p (.tup (x.below.map P.str))], by simp [Rm.p], by simp, by simp [(hF x hx).1]⟩
  have f2 := dOf_str Rm.name (fun x => (F x).p) (names_nd h) (by omega)
  unfold s_sets_in b_sets_in
  simp [List.replicate_succ, n_sets_in, f1, f2, fzD, fzO, newD]
end DL

set_option Elab.async false
set_option linter.all false
set_option maxRecDepth 100000
set_option maxHeartbeats 2000000
/-! Plain part mi: the table of a house. -/
noncomputable section
namespace DL
open PySem PySem.Spec PyProof.Rows L2
@[simp] theorem gTuple_l (xs : List P) : gTuple [.lst xs] = some (.tup xs) := rfl
theorem srt_cl {ks : List Item} {tr : List (Option (Item × Option Edge))} : gSorted [clD ks tr] = some ((sortZ ks).map Item.p) := by
  have : gSorted [.lst (ks.map Item.p)] = some ((sortZ ks).map Item.p) := en_sorted item_ord (.inl fun _ => rfl) ks
  exact this
theorem qd_in {bk : Book} {k : Nat} (ok : bk.Ok k) (h6 : bk.n ≤ 6) {q : Qd} (h : q.Of bk) : ∀ z ∈ q.l, z.1.length ≤ 96 := by
  have hbeg : ∀ i ∈ [beg], i.In bk := fun i hi => by rw [List.mem_singleton.mp hi]; exact beg_in ok.n1
  have in3 : ∀ i ∈ q.k3, i.In bk := fun i hi => reach_in ok hbeg (h.c3.reach i hi)
  intro z hz
  simp only [Qd.l, List.mem_cons, List.not_mem_nil, or_false] at hz
  rcases hz with rfl | rfl | rfl | rfl
  · exact few h6 h.c0.nd fun i hi => reach_in ok hbeg (h.c0.reach i hi)
  · exact few h6 h.c1.nd fun i hi => reach_in ok (fun j hj => in3 j (List.mem_filter.mp (List.mem_filter.mp hj).1).1) (h.c1.reach i hi)
  · exact few h6 h.c2.nd fun i hi => reach_in ok (fun j hj => in3 j (List.mem_filter.mp hj).1) (h.c2.reach i hi)
  · exact few h6 h.c3.nd in3
theorem sort_len (ks : List Item) : (sortZ ks).length = ks.length := (sortZ_perm ks).length_eq
end DL

set_option Elab.async false
set_option linter.all false
set_option maxRecDepth 100000
set_option maxHeartbeats 2000000
/-! Plain part mi2: table_of, least. -/
noncomputable section
namespace DL
open PySem PySem.Spec PyProof.Rows L2
theorem table_of_ok {hs : List Rm} (h : HouseOk hs) (m : Mem) : s_table_of [.p (.tup (hs.map Rm.p))] m = .ok (.p (tabP hs)) m := by
  obtain ⟨F, e, hF⟩ := sets_in_ok h m
  have l2 := h.l2
  have inn : ∀ x ∈ hs, ∀ δ : DS, sCall gTuple (sCons (sLc (sIt (sName 2)) (gN 3) sYes (sCall gTuple (sCons (sCallL gSorted (sCons (sName 3) sNil)) sNil)) [3]) sNil) [.p (.tup (hs.map Rm.p)), .p (.str x.name), .p (F x).p, .und] m = .ok (.p (setsP x.bk)) m := by
    intro x hx δ
    have lz := qd_in (h.ok x hx).bk (h.ok x hx).bk.n2 (hF x hx)
    have c := compL_map (g := gN 3) (ft := sYes) (fe := sCall gTuple (sCons (sCallL gSorted (sCons (sName 3) sNil)) sNil)) (ok := fun _ => true) (δ := [.p (.tup (hs.map Rm.p)), .p (.str x.name), .p (F x).p, .und]) (m := m) (fun z : List Item × List (Option (Item × Option Edge)) => clD z.1 z.2) id (fun _ => true) (fun z => itsP (sortZ z.1)) rfl (xs := (F x).l) fun z hz => ⟨[.p (.tup (hs.map Rm.p)), .p (.str x.name), .p (F x).p, .p (clD z.1 z.2)], by simp, by simp, fun _ => by
      have := lz z hz
      have mk := mkL_ok (xs := (sortZ z.1).map Item.p) (m := m) (by rw [List.length_map, sort_len]; omega)
      simp [srt_cl, itsP]⟩
    have f1 : ((((F x).l.filter fun _ => true).map fun z => itsP (sortZ z.1)).map id) = (sets4 x.bk).map itsP := by
      rw [List.map_id, List.filter_eq_self.mpr (by simp)]
      exact Qd.eq (hF x hx)
    rw [f1] at c
    have mk := mkL_ok (xs := (sets4 x.bk).map itsP) (m := m) (by simp [sets4])
    have ht : (F x).p = .tup ((F x).l.map fun z => clD z.1 z.2) := rfl
    rw [ht] at c ⊢
    simp [c, mk, setsP]
  have c := compL_map (g := gT 2 (gsC (gN 1) (gsC (gN 2) gsN))) (ft := sYes) (fe := sTup (sCons (sName 1) (sCons (sCall gTuple (sCons (sLc (sIt (sName 2)) (gN 3) sYes (sCall gTuple (sCons (sCallL gSorted (sCons (sName 3) sNil)) sNil)) [3]) sNil)) sNil))) (ok := fun _ => true) (δ := [.p (.tup (hs.map Rm.p)), .und, .und, .und]) (m := m) (fun x : Rm => P.tup [.str x.name, (F x).p]) id (fun _ => true) (fun x => .tup [.str x.name, setsP x.bk]) rfl (xs := hs) fun x hx => ⟨[.p (.tup (hs.map Rm.p)), .p (.str x.name), .p (F x).p, .und], by simp, by simp, fun _ => by
    have i := inn x hx []
    simp [-e_Call, i]⟩
  have f1 : (((hs.filter fun _ => true).map fun x => P.tup [.str x.name, setsP x.bk]).map id) = hs.map fun x => .tup [.str x.name, setsP x.bk] := by
    rw [List.map_id, List.filter_eq_self.mpr (by simp)]
  rw [f1] at c
  have mk := mkL_ok (xs := hs.map fun x => P.tup [.str x.name, setsP x.bk]) (m := m) (by simp; omega)
  have it : itemsOf (some (.dK (hs.map fun x => Sum.inr x.name) (hs.map fun x => (F x).p))) = some (hs.map fun x => .tup [.str x.name, (F x).p]) := congrArg some (zip_str Rm.name (fun x => (F x).p) hs)
  unfold s_table_of b_table_of
  simp [List.replicate_succ, n_table_of, e, it, toIt, c, mk, tabP, valP]
theorem least_ok {hs : List Rm} (h : HouseOk hs) (m : Mem) : s_least [.p (.tup (hs.map Rm.p))] m = .ok (.p (tabP hs)) m := by
  unfold s_least b_least
  simp [List.replicate_succ, n_least, house_fine h, table_of_ok h]
end DL

set_option Elab.async false
set_option linter.all false
set_option maxRecDepth 100000
set_option maxHeartbeats 2000000
/-! Plain part mx: sets as they are told. -/
noncomputable section
namespace DL
open PySem PySem.Spec PyProof.Rows L2
/-- those of a book are reached, at most ninety six -/
structure Sets (bk : Book) : Prop where
  c0 : IsEn bk false [beg] (cl bk false [beg])
  c1 : IsEn bk false (quiets bk (frees (full bk))) (cl bk false (quiets bk (frees (full bk))))
  c2 : IsEn bk false (frees (full bk)) (cl bk false (frees (full bk)))
  c3 : IsEn bk true [beg] (full bk)
theorem sets_of {bk : Book} {k : Nat} (ok : bk.Ok k) (h6 : bk.n ≤ 6) (h24 : bk.es.length ≤ 24) : Sets bk ∧ (∀ i ∈ full bk, i.In bk) ∧ (full bk).length ≤ 96 := by
  have hbeg : ∀ i ∈ [beg], i.In bk := fun i hi => by rw [List.mem_singleton.mp hi]; exact beg_in ok.n1
  have c3 : IsEn bk true [beg] (full bk) := cl_en ok h6 h24 (by simp) hbeg
  have c0 : IsEn bk false [beg] (cl bk false [beg]) := cl_en ok h6 h24 (by simp) hbeg
  have in3 : ∀ i ∈ full bk, i.In bk := fun i hi => reach_in ok hbeg ((c3.mem i).mp hi)
  exact ⟨⟨c0, cl_en ok h6 h24 ((c3.nd.filter _).filter _) (fun i hi => in3 i (List.mem_filter.mp (List.mem_filter.mp hi).1).1), cl_en ok h6 h24 (c3.nd.filter _) (fun i hi => in3 i (List.mem_filter.mp hi).1), c3⟩, in3, few h6 c3.nd in3⟩
theorem app1 {xs : List P} {y : P} (hl : xs.length < 16777216) (m r : Mem) (x : Option MO) :
    onLst fAppend (.ref (m.length + (r.length + 1))) [.p y] (m ++ x :: (r ++ [some (.lst xs)])) = some (.non, m ++ x :: (r ++ [some (.lst (xs ++ [y]))])) := by
  unfold onLst
  simp only [own_at1, allP_cons, allP_nil, Option.map_some]
  unfold fAppend
  dsimp only
  rw [if_pos hl]
  simp only [Option.map_some, own_set1]
theorem app0 {xs : List P} {y : P} (hl : xs.length < 16777216) (m r : Mem) :
    onLst fAppend (.ref m.length) [.p y] (m ++ some (.lst xs) :: r) = some (.non, m ++ some (.lst (xs ++ [y])) :: r) := by
  unfold onLst
  simp only [own_at0, allP_cons, allP_nil, Option.map_some]
  unfold fAppend
  dsimp only
  rw [if_pos hl]
  simp only [Option.map_some, own_set0]
theorem view1 {x : Option MO} {xs : List P} (m r : Mem) : view (.ref (m.length + (r.length + 1))) (m ++ x :: (r ++ [some (.lst xs)])) = some (.lst xs) := by
  rw [view_ref, own_at1]
  rfl
/-- ascending, of the book -/
structure SetOk (bk : Book) (S : List Item) : Prop where
  asc : S.Pairwise fun a b => eLt a b = true
  inn : ∀ i ∈ S, i.In bk
  few : S.length ≤ 96
theorem cl_of {bk : Book} {over : Bool} {bs : List Item} (c : IsEn bk over bs (cl bk over bs)) : (cl bk over bs).Pairwise fun a b => eLt a b = true := by
  obtain ⟨ks, h⟩ : ∃ ks, ks = cl bk over bs := ⟨_, rfl⟩
  rw [← h] at c
  exact cl_asc c
theorem cl_shut {bk : Book} {over : Bool} {bs ks : List Item} (c : IsEn bk over bs ks) : ∀ i ∈ ks, ∀ e j, (e, j) ∈ nexts bk over i → j ∈ ks := fun i hi e j n => (c.mem j).mpr (.step ((c.mem i).mp hi) n)
theorem set4_ok {bk : Book} {k : Nat} (ok : bk.Ok k) (h6 : bk.n ≤ 6) (h24 : bk.es.length ≤ 24) : ∀ S ∈ sets4 bk, SetOk bk S := by
  obtain ⟨s, in3, len3⟩ := sets_of ok h6 h24
  have hbeg : ∀ i ∈ [beg], i.In bk := fun i hi => by rw [List.mem_singleton.mp hi]; exact beg_in ok.n1
  have q : ∀ {over bs}, (∀ i ∈ bs, i.In bk) → IsEn bk over bs (cl bk over bs) → SetOk bk (cl bk over bs) := fun hb c => ⟨cl_of c, fun i hi => reach_in ok hb ((c.mem i).mp hi), few h6 c.nd fun i hi => reach_in ok hb ((c.mem i).mp hi)⟩
  intro S hS
  simp only [sets4, List.mem_cons, List.not_mem_nil, or_false] at hS
  rcases hS with rfl | rfl | rfl | rfl
  · exact q hbeg s.c0
  · exact q (fun i hi => in3 i (List.mem_filter.mp (List.mem_filter.mp hi).1).1) s.c1
  · exact q (fun i hi => in3 i (List.mem_filter.mp hi).1) s.c2
  · exact q hbeg s.c3
def rowP (x : Rm) : P := .tup [.str x.name, setsP x.bk]
theorem tabP_eq (hs : List Rm) : tabP hs = .tup (hs.map rowP) := rfl
theorem paird_map {α : Type} (f g : α → P) : ∀ xs : List α, paird (xs.map f) (xs.map g) = xs.map fun x => .tup [f x, g x]
  | [] => rfl
  | x :: xs => by
    have e : paird ((x :: xs).map f) ((x :: xs).map g) = .tup [f x, g x] :: paird (xs.map f) (xs.map g) := rfl
    rw [e, paird_map f g xs, List.map_cons]
@[simp] theorem ne_int_b (a b : Int) : pNe (.int a) (.int b) = some (.bl (!decide (a = b))) := en_ne a b
theorem lookK_map {α : Type} (f : α → Str) (v : α → P) : ∀ {xs : List α}, (xs.map f).Nodup → ∀ x ∈ xs, lookK (.inr (f x)) (xs.map fun x => Sum.inr (f x)) (xs.map v) = some (v x)
  | [], _, x, h => by cases h
  | y :: xs, nd, x, h => by
    rw [List.map_cons] at nd
    have nd' := List.nodup_cons.mp nd
    rw [List.map_cons, List.map_cons, lookK]
    rcases List.mem_cons.mp h with h | h
    · subst h
      rw [if_pos rfl]
    · rw [if_neg, lookK_map f v nd'.2 x h]
      intro z
      have z' : f y = f x := by injection z
      exact nd'.1 (by rw [z']; exact List.mem_map_of_mem h)
theorem leastDict {hs : List Rm} (h : HouseOk hs) : gDict false [tabP hs] = some (.dK (hs.map fun x => Sum.inr x.name) (hs.map fun x => setsP x.bk)) := by
  have l2 := h.l2
  have e : gDict false [tabP hs] = (pairsOf (hs.map fun x => P.tup [.str x.name, setsP x.bk])).bind (dOf false) := rfl
  rw [e, pairsOf_map]
  exact dOf_str Rm.name (fun x => setsP x.bk) (names_nd h) (by omega)
/-- the set at a level -/
def lev (bk : Book) : Nat → List Item
  | 0 => cl bk false [beg]
  | 1 => cl bk false (quiets bk (frees (full bk)))
  | 2 => cl bk false (frees (full bk))
  | _ => full bk
theorem lev_at (bk : Book) : ∀ l : Nat, l < 4 → pIx (setsP bk) (.int l) = some (itsP (lev bk l))
  | 0, _ => rfl
  | 1, _ => rfl
  | 2, _ => rfl
  | 3, _ => rfl
  | _ + 4, h => by omega
theorem lev_mem (bk : Book) : ∀ l : Nat, lev bk l ∈ sets4 bk
  | 0 => by simp [lev, sets4]
  | 1 => by simp [lev, sets4]
  | 2 => by simp [lev, sets4]
  | _ + 3 => by simp [lev, sets4]
end DL

set_option Elab.async false
set_option linter.all false
set_option maxRecDepth 100000
set_option maxHeartbeats 2000000
/-! Plain part sh: how long shown values are. -/
noncomputable section
namespace DL
open PySem PySem.Spec PyProof.Rows L2
theorem join_le (B : Nat) : ∀ ts : List Str, (∀ t ∈ ts, t.length ≤ B) → (Str.join ", " ts).length ≤ ts.length * (B + 2)
  | [], _ => by show (0 : Nat) ≤ _; omega
  | [x], h => by
    have := h x List.mem_cons_self
    show x.length ≤ 1 * (B + 2)
    omega
  | x :: y :: r, h => by
    have ih := join_le B (y :: r) fun t ht => h t (List.mem_cons_of_mem _ ht)
    have h1 := h x List.mem_cons_self
    have e2 : ((", " : String) : Str).length = 2 := rfl
    show (x ++ ", " ++ Str.join ", " (y :: r)).length ≤ (r.length + 1 + 1) * (B + 2)
    rw [strLen_append, strLen_append, e2]
    rw [List.length_cons] at ih
    rw [Nat.add_mul (r.length + 1) 1]
    omega
theorem tup_le (B : Nat) (ts : List Str) (h : ∀ t ∈ ts, t.length ≤ B) : (tupleText ts).length ≤ 3 + ts.length * (B + 2) := by
  have j := join_le B ts h
  unfold tupleText
  rw [strLen_append, strLen_append]
  have e1 : ((("(" : String) : Str)).length = 1 := rfl
  have e2 : (((if ts.length == 1 then ",)" else ")" : String) : Str)).length ≤ 2 := by split <;> decide
  rw [e1]
  omega
theorem from_le (B : Nat) : ∀ (ts : List Str) (k : Nat) (acc : Str), (∀ t ∈ ts, t.length ≤ B) → (textFrom k acc ts).length ≤ acc.length + ts.length * (B + 2)
  | [], k, acc, _ => by show acc.length ≤ _; omega
  | t :: r, k, acc, h => by
    have ih := from_le B r (k + 1) (acc ++ (if k > 0 then ", " else "" : String) ++ t) fun t ht => h t (List.mem_cons_of_mem _ ht)
    have h1 := h t List.mem_cons_self
    have e : (acc ++ (if k > 0 then ", " else "" : String) ++ t).length = acc.length + (if k > 0 then 2 else 0) + t.length := by
      rw [strLen_append, strLen_append]
      split <;> rfl
    have e2 : (if k > 0 then 2 else 0 : Nat) ≤ 2 := by split <;> omega
    show (textFrom (k + 1) _ r).length ≤ acc.length + (r.length + 1) * (B + 2)
    rw [Nat.add_mul r.length 1]
    omega
theorem lst_le (B : Nat) (ts : List Str) (h : ∀ t ∈ ts, t.length ≤ B) : (listText ts).length ≤ 3 + ts.length * (B + 2) := by
  have j := from_le B ts 0 "[" h
  unfold listText
  rw [strLen_append]
  have e1 : ((("[" : String) : Str)).length = 1 := rfl
  have e2 : ((("]" : String) : Str)).length = 1 := rfl
  rw [e2]
  rw [e1] at j
  omega
/-- it may be shown, in B letters at most -/
def Sh (B : Nat) (x : P) : Prop := x.py.showable = true ∧ x.py.shown.length ≤ B
theorem Sh.le {B C : Nat} {x : P} (h : Sh B x) (hc : B ≤ C) : Sh C x := ⟨h.1, Nat.le_trans h.2 hc⟩
theorem sh_all {B : Nat} : ∀ {xs : List P}, (∀ x ∈ xs, Sh B x) → PyData.showableAll (P.pyL xs) = true ∧ (∀ t ∈ PyData.shownAll (P.pyL xs), t.length ≤ B) ∧ (PyData.shownAll (P.pyL xs)).length = xs.length
  | [], _ => by simp [P.pyL, PyData.showableAll, PyData.shownAll]
  | x :: xs, h => by
    obtain ⟨h1, h2, h3⟩ := sh_all fun y hy => h y (List.mem_cons_of_mem _ hy)
    have hx := h x List.mem_cons_self
    refine ⟨?_, ?_, ?_⟩
    · rw [P.pyL, PyData.showableAll, hx.1, h1]; rfl
    · rw [P.pyL, PyData.shownAll]
      intro t ht
      rcases List.mem_cons.mp ht with rfl | ht
      · exact hx.2
      · exact h2 t ht
    · rw [P.pyL, PyData.shownAll, List.length_cons, h3, List.length_cons]
theorem sh_tup {B : Nat} {xs : List P} (h : ∀ x ∈ xs, Sh B x) : Sh (3 + xs.length * (B + 2)) (.tup xs) := by
  obtain ⟨h1, h2, h3⟩ := sh_all h
  refine ⟨by rw [P.py, PyData.showable]; exact h1, ?_⟩
  rw [P.py, PyData.shown, ← h3]
  exact tup_le B _ h2
theorem sh_lst {B : Nat} {xs : List P} (h : ∀ x ∈ xs, Sh B x) : Sh (3 + xs.length * (B + 2)) (.lst xs) := by
  obtain ⟨h1, h2, h3⟩ := sh_all h
  refine ⟨by rw [P.py, PyData.showable]; exact h1, ?_⟩
  rw [P.py, PyData.shown, ← h3]
  exact lst_le B _ h2
theorem sh_small {i : Int} (h0 : 0 ≤ i) (h1 : i < 6) : Sh 30 (.int i) := by
  have : i = 0 ∨ i = 1 ∨ i = 2 ∨ i = 3 ∨ i = 4 ∨ i = 5 := by omega
  rcases this with rfl | rfl | rfl | rfl | rfl | rfl <;> exact ⟨by decide +kernel, by decide +kernel⟩
theorem sh_asks : ∀ q ∈ asksT, (txs q).py.showable = true ∧ (txs q).py.shown.length ≤ 30 := by decide +kernel
theorem sh_deeds : ∀ q ∈ deedsT, (P.str q).py.showable = true ∧ (P.str q).py.shown.length ≤ 30 := by decide +kernel
theorem sh_wds : ∀ q ∈ wds, (P.str q).py.showable = true ∧ (P.str q).py.shown.length ≤ 30 := by decide +kernel
theorem sh_edge {x : Edge} {k : Int} (h : x.Ok k) (hk : k ≤ 6) : Sh 131 x.p := by
  refine (sh_tup (B := 30) (xs := [.int x.b, txs x.q, .str x.w, .int x.e]) fun y hy => ?_).le (by simp)
  simp only [List.mem_cons, List.not_mem_nil, or_false] at hy
  rcases hy with rfl | rfl | rfl | rfl
  · exact sh_small h.b0 (by have := h.b1; omega)
  · exact sh_asks _ h.q
  · exact sh_deeds _ h.w
  · exact sh_small h.e0 (by have := h.e1; omega)
/-- all that repr asks for -/
structure Sd (B k : Nat) (x : P) : Prop where
  sh : Sh B x
  pl : x.plain = true
  dp : x.dep ≤ k
theorem Sd.le {B C k j : Nat} {x : P} (h : Sd B k x) (hc : B ≤ C) (hk : k ≤ j) : Sd C j x := ⟨h.sh.le hc, h.pl, Nat.le_trans h.dp hk⟩
theorem sd_tup {B k : Nat} {xs : List P} (h : ∀ x ∈ xs, Sd B k x) : Sd (3 + xs.length * (B + 2)) (k + 1) (.tup xs) :=
  ⟨sh_tup fun x hx => (h x hx).sh, by rw [P.plain]; exact plainL_of fun x hx => (h x hx).pl, by rw [P.dep]; exact Nat.succ_le_succ (depL_of fun x hx => (h x hx).dp)⟩
theorem sd_lst {B k : Nat} {xs : List P} (h : ∀ x ∈ xs, Sd B k x) : Sd (3 + xs.length * (B + 2)) (k + 1) (.lst xs) :=
  ⟨sh_lst fun x hx => (h x hx).sh, by rw [P.plain]; exact plainL_of fun x hx => (h x hx).pl, by rw [P.dep]; exact Nat.succ_le_succ (depL_of fun x hx => (h x hx).dp)⟩
theorem sd_int {i : Int} (h0 : 0 ≤ i) (h1 : i < 6) : Sd 30 0 (.int i) := ⟨sh_small h0 h1, rfl, Nat.le_refl _⟩
theorem sd_bl (b : Bool) : Sd 30 0 (.bl b) := ⟨by cases b <;> exact ⟨by decide +kernel, by decide +kernel⟩, rfl, Nat.le_refl _⟩
theorem sd_wd {w : Str} (h : w ∈ wds) : Sd 30 0 (.str w) := ⟨sh_wds w h, rfl, Nat.le_refl _⟩
theorem repr_lst {B k : Nat} {xs : List P} (h : Sd B k (.lst xs)) (hb : B ≤ 16777216) (hk : k ≤ 100) : gRepr [.lst xs] = some (.str (P.lst xs).py.shown) := by
  refine if_pos ?_
  unfold P.shows
  rw [h.pl, decide_eq_true (Nat.le_trans h.dp hk), h.sh.1, decide_eq_true (Nat.le_trans h.sh.2 hb)]
  rfl
theorem sd_item {bk : Book} {i : Item} (h : i.In bk) (h6 : bk.n ≤ 6) : Sd 131 1 i.p := by
  refine (sd_tup (B := 30) (k := 0) (xs := [.int i.s, .bl i.h, .bl i.r, .int i.l]) fun y hy => ?_).le (by simp) (by omega)
  have := h.s0; have := h.s1; have := h.l0; have := h.l1
  simp only [List.mem_cons, List.not_mem_nil, or_false] at hy
  rcases hy with rfl | rfl | rfl | rfl
  · exact sd_int (by omega) (by omega)
  · exact sd_bl _
  · exact sd_bl _
  · exact sd_int (by omega) (by omega)
theorem sd_set {bk : Book} {S : List Item} (h : SetOk bk S) (h6 : bk.n ≤ 6) : Sd 13000 2 (itsP S) := by
  refine (sd_tup (B := 131) (k := 1) (xs := S.map Item.p) fun y hy => ?_).le ?_ (by omega)
  · obtain ⟨i, hi, rfl⟩ := List.mem_map.mp hy
    exact sd_item (h.inn i hi) h6
  · have := h.few
    rw [List.length_map]
    omega
theorem sd_sets {bk : Book} {k : Nat} (ok : bk.Ok k) (h6 : bk.n ≤ 6) (h24 : bk.es.length ≤ 24) : Sd 60000 3 (setsP bk) := by
  refine (sd_tup (B := 13000) (k := 2) (xs := (sets4 bk).map itsP) fun y hy => ?_).le (by simp [sets4]) (by omega)
  obtain ⟨S, hS, rfl⟩ := List.mem_map.mp hy
  exact sd_set (set4_ok ok h6 h24 S hS) h6
theorem sd_tab {hs : List Rm} (h : HouseOk hs) : Sd 400000 5 (tabP hs) := by
  refine (sd_tup (B := 121000) (k := 4) (xs := hs.map rowP) fun y hy => ?_).le (by have := h.l2; rw [List.length_map]; omega) (by omega)
  obtain ⟨x, hx, rfl⟩ := List.mem_map.mp hy
  refine (sd_tup (B := 60000) (k := 3) (xs := [.str x.name, setsP x.bk]) fun y hy => ?_).le (by simp) (by omega)
  simp only [List.mem_cons, List.not_mem_nil, or_false] at hy
  rcases hy with rfl | rfl
  · exact (sd_wd (h.mem _ (List.mem_map_of_mem hx))).le (by omega) (by omega)
  · exact sd_sets (h.ok x hx).bk (h.ok x hx).bk.n2 (h.ok x hx).few
end DL

set_option Elab.async false
set_option linter.all false
set_option maxRecDepth 100000
set_option maxHeartbeats 2000000
/-! Plain part mn: a house with one edge more. -/
noncomputable section
namespace DL
open PySem PySem.Spec PyProof.Rows L2
theorem cut_from {α : Type} (xs : List α) (k : Nat) (h : k ≤ xs.length) : cut xs (some (k : Int)) none = xs.drop k := by
  unfold cut
  have e' : HT.sIx xs.length 0 (some (k : Int)) = min k xs.length := HT.sIx_nat xs.length 0 k
  rw [e', HT.sIx_none, Nat.min_eq_left h]
  exact List.take_of_length_le (by rw [List.length_drop]; exact Nat.le_refl _)
theorem edge_irr (x : Edge) : ¬ x.lt x := by
  intro h
  have h' : eLt x x = true := h
  have t := eLe_lt x x
  rw [h'] at t
  have : eLe x x = true := by have := eLe_total x x; simpa using this
  rw [this] at t
  cases t
theorem edges_nd {bk : Book} {k : Nat} (ok : bk.Ok k) : bk.es.Nodup := ok.es.imp fun h e => by subst e; exact edge_irr _ h
theorem ix_tupM {α : Type} (f : α → P) {xs : List α} {i : Nat} (h : i < xs.length) : pIx (.tup (xs.map f)) (.int i) = some (f xs[i]) := by
  rw [ix_tup (xs := xs.map f) (by simpa using h)]
  simp
end DL

set_option Elab.async false
set_option linter.all false
set_option maxRecDepth 100000
set_option maxHeartbeats 2000000
/-! Plain part mo: sets within sets. -/
noncomputable section
namespace DL
open PySem PySem.Spec PyProof.Rows L2
theorem Reach.up {bk bk' : Book} {over over' : Bool} {bs cs : List Item} (hn : ∀ i e j, (e, j) ∈ nexts bk over i → (e, j) ∈ nexts bk' over' i) (hb : ∀ i ∈ bs, Reach bk' over' cs i) {i : Item} (r : Reach bk over bs i) : Reach bk' over' cs i := by
  induction r with
  | base h => exact hb _ h
  | step _ n ih => exact .step ih (hn _ _ _ n)
theorem canE_over {i : Item} {e : Edge} (h : canE false i e = true) : canE true i e = true := by
  unfold canE at h ⊢
  simp only [Bool.and_eq_true] at h ⊢
  exact ⟨⟨⟨h.1.1.1, by simp⟩, h.1.2⟩, h.2⟩
theorem nexts_over {bk : Book} : ∀ i e j, (e, j) ∈ nexts bk false i → (e, j) ∈ nexts bk true i := by
  intro i e j h
  unfold nexts at h ⊢
  rcases List.mem_append.mp h with h | h
  · obtain ⟨x, hx, ex⟩ := List.mem_map.mp h
    have hx' := List.mem_filter.mp hx
    exact List.mem_append_left _ (List.mem_map.mpr ⟨x, List.mem_filter.mpr ⟨hx'.1, canE_over hx'.2⟩, ex⟩)
  · exact List.mem_append_right _ h
structure Bigger (bk bk' : Book) : Prop where
  n : bk'.n = bk.n
  up : bk'.up = bk.up
  deaf : bk'.deaf = bk.deaf
  es : ∀ e ∈ bk.es, e ∈ bk'.es
theorem Bigger.refl (bk : Book) : Bigger bk bk := ⟨rfl, rfl, rfl, fun _ h => h⟩
theorem nexts_big {bk bk' : Book} (b : Bigger bk bk') {over : Bool} : ∀ i e j, (e, j) ∈ nexts bk over i → (e, j) ∈ nexts bk' over i := by
  intro i e j h
  unfold nexts at h ⊢
  rcases List.mem_append.mp h with h | h
  · obtain ⟨x, hx, ex⟩ := List.mem_map.mp h
    have hx' := List.mem_filter.mp hx
    refine List.mem_append_left _ (List.mem_map.mpr ⟨x, List.mem_filter.mpr ⟨b.es _ hx'.1, hx'.2⟩, ?_⟩)
    rw [← ex]
    unfold ledE ledL
    rw [b.up]
  · exact List.mem_append_right _ (by rw [b.deaf]; exact h)
theorem full_big {bk bk' : Book} (b : Bigger bk bk') (s : Sets bk) (s' : Sets bk') : ∀ i ∈ full bk, i ∈ full bk' := fun i hi => (s'.c3.mem i).mpr (((s.c3.mem i).mp hi).up (nexts_big b) fun j hj => .base hj)
theorem frees_big {bk bk' : Book} (b : Bigger bk bk') (s : Sets bk) (s' : Sets bk') : ∀ i ∈ frees (full bk), i ∈ frees (full bk') := fun i hi => List.mem_filter.mpr ⟨full_big b s s' i (List.mem_filter.mp hi).1, (List.mem_filter.mp hi).2⟩
theorem quiets_big {bk bk' : Book} (b : Bigger bk bk') (s : Sets bk) (s' : Sets bk') : ∀ i ∈ quiets bk (frees (full bk)), i ∈ quiets bk' (frees (full bk')) := fun i hi => List.mem_filter.mpr ⟨frees_big b s s' i (List.mem_filter.mp hi).1, by rw [b.up]; exact (List.mem_filter.mp hi).2⟩
theorem lev_big {bk bk' : Book} (b : Bigger bk bk') (s : Sets bk) (s' : Sets bk') : ∀ l, ∀ i ∈ lev bk l, i ∈ lev bk' l
  | 0, i, hi => (s'.c0.mem i).mpr (((s.c0.mem i).mp hi).up (nexts_big b) fun j hj => .base hj)
  | 1, i, hi => (s'.c1.mem i).mpr (((s.c1.mem i).mp hi).up (nexts_big b) fun j hj => .base (quiets_big b s s' j hj))
  | 2, i, hi => (s'.c2.mem i).mpr (((s.c2.mem i).mp hi).up (nexts_big b) fun j hj => .base (frees_big b s s' j hj))
  | _ + 3, i, hi => full_big b s s' i hi
theorem lev_in {bk : Book} {k : Nat} (ok : bk.Ok k) (s : Sets bk) : ∀ l, ∀ i ∈ lev bk l, i ∈ lev bk (l + 1)
  | 0, i, hi => (s.c1.mem i).mpr (((s.c0.mem i).mp hi).up (fun _ _ _ h => h) fun j hj => .base (by
      rw [List.mem_singleton.mp hj]
      refine List.mem_filter.mpr ⟨List.mem_filter.mpr ⟨(s.c3.mem _).mpr (.base (by simp)), rfl⟩, ?_⟩
      have : ¬ (beg.s ∈ bk.up) := fun z => by have := (ok.upI _ z).1; have e : beg.s = 0 := rfl; omega
      rw [decide_eq_false this]
      rfl))
  | 1, i, hi => (s.c2.mem i).mpr (((s.c1.mem i).mp hi).up (fun _ _ _ h => h) fun j hj => .base (List.mem_filter.mp hj).1)
  | 2, i, hi => (s.c3.mem i).mpr (((s.c2.mem i).mp hi).up nexts_over fun j hj => (s.c3.mem j).mp (List.mem_filter.mp hj).1)
  | _ + 3, i, hi => hi
end DL

set_option Elab.async false
set_option linter.all false
set_option maxRecDepth 100000
set_option maxHeartbeats 2000000
/-! Plain part na: sets of tuples in dicts; rows of names and stands. -/
noncomputable section
namespace DL
open PySem PySem.Spec PyProof.Rows L2
section
variable {α : Type} [DecidableEq α]
def addA (K : List α) (q : α) : List α := if q ∈ K then K else K ++ [q]
def addAll (K L : List α) : List α := L.foldl addA K
theorem addA_mem {K : List α} {q x : α} : x ∈ addA K q ↔ x ∈ K ∨ x = q := by
  unfold addA
  split
  · rename_i h
    exact ⟨.inl, fun z => z.elim id fun e => by rw [e]; exact h⟩
  · simp
theorem addA_nd {K : List α} {q : α} (h : K.Nodup) : (addA K q).Nodup := by
  unfold addA
  split
  · exact h
  · rename_i n
    rw [List.nodup_append]
    exact ⟨h, by simp, fun a ha b hb e => n (by rw [← List.mem_singleton.mp hb, ← e]; exact ha)⟩
theorem addA_len (K : List α) (q : α) : (addA K q).length ≤ K.length + 1 := by
  unfold addA
  split
  · omega
  · simp
theorem addAll_mem {x : α} : ∀ {L K : List α}, x ∈ addAll K L ↔ x ∈ K ∨ x ∈ L
  | [], K => by simp [addAll]
  | q :: L, K => by
    have ih := addAll_mem (x := x) (L := L) (K := addA K q)
    show x ∈ addAll (addA K q) L ↔ _
    rw [ih, addA_mem, List.mem_cons, or_assoc]
theorem addAll_nd : ∀ {L K : List α}, K.Nodup → (addAll K L).Nodup
  | [], K, h => h
  | q :: L, K, h => addAll_nd (L := L) (addA_nd h)
theorem addAll_len : ∀ (L K : List α), (addAll K L).length ≤ K.length + L.length
  | [], K => by simp [addAll]
  | q :: L, K => by
    have ih := addAll_len L (addA K q)
    have := addA_len K q
    show (addAll (addA K q) L).length ≤ _
    rw [List.length_cons]
    omega
theorem addAll_append (K L M : List α) : addAll K (L ++ M) = addAll (addAll K L) M := List.foldl_append
end
section
variable {α : Type} [I : Enc α] [DecidableEq α]
abbrev trD (K : List α) : MO := .dT (K.map Enc.p) (K.map fun _ => .bl true)
theorem nk_mem (hk : (Enc.ty α).key = true) {a : α} : ∀ {bs : List α}, (en a).nk ∈ P.nkL (bs.map Enc.p) ↔ a ∈ bs
  | [] => by simp [P.nkL]
  | b :: bs => by
    rw [List.map_cons, P.nkL, List.mem_cons, List.mem_cons, nk_mem hk (bs := bs)]
    exact or_congr ⟨fun h => Enc.inj (Ty.nk _ _ _ hk (Enc.has a) (Enc.has b) h), fun h => by rw [h]⟩ Iff.rfl
theorem put_any (hk : (Enc.ty α).key = true) {a : α} {as' : List P} (ht : en a = .tup as') {K : List α} (hl : K.length < 16777216) :
    setO (trD K) (en a) (.bl true) = some (trD (addA K a)) := by
  by_cases h : a ∈ K
  · have kd := en_keyD hk a
    have ea : ((P.nkL (K.map Enc.p)).any fun j => decide (j = (en a).nk)) = true := List.any_eq_true.mpr ⟨_, (nk_mem hk).mpr h, decide_eq_true rfl⟩
    have hl2 : (K.map Enc.p).length < 16777216 := by rw [List.length_map]; exact hl
    have zt : ∀ (ks : List _) (as : List α), List.zipWith (fun j x => if j = (en a).nk then P.bl true else x) ks (as.map fun _ => P.bl true) = (ks.zip as).map fun _ => P.bl true := by
      intro ks
      induction ks with
      | nil => intro as; rfl
      | cons k ks ih =>
        intro as
        cases as with
        | nil => rfl
        | cons b as =>
          rw [List.map_cons, List.zipWith_cons_cons, ih, List.zip_cons_cons, List.map_cons]
          congr 1
          split <;> rfl
    have nl : ∀ as : List α, (P.nkL (as.map Enc.p)).length = as.length := by
      intro as
      induction as with
      | nil => rfl
      | cons b as ih => rw [List.map_cons, P.nkL, List.length_cons, List.length_cons, ih]
    have zm : ((P.nkL (K.map Enc.p)).zip K).map (fun _ => P.bl true) = K.map fun _ => P.bl true := by
      rw [List.map_const', List.map_const', List.length_zip, nl, Nat.min_self]
    rw [ht] at kd ea zt
    have e0 : setO (trD K) (.tup as') (.bl true) = if (P.tup as').keyD = true ∧ (K.map Enc.p).length < 16777216 then some (.dT (if ((P.nkL (K.map Enc.p)).any fun j => decide (j = (P.tup as').nk)) = true then K.map Enc.p else K.map Enc.p ++ [.tup as']) (putA (P.nkL (K.map Enc.p)) (K.map fun _ => P.bl true) (P.tup as').nk (.bl true))) else none := rfl
    rw [ht, e0, if_pos ⟨kd, hl2⟩, ea, if_pos rfl]
    unfold putA addA
    rw [ea, if_pos rfl, zt, zm, if_pos h]
  · have := en_put hk ht (xs := K.map fun _ => .bl true) (v := .bl true) h hl
    rw [this]
    unfold addA trD
    rw [if_neg h]
    simp
end
structure Quad where
  n : Str
  s : Int
  o : Str
  t : Int
instance : DecidableEq Quad := fun a b => if h : a.n = b.n ∧ a.s = b.s ∧ a.o = b.o ∧ a.t = b.t then .isTrue (by cases a; cases b; simp at h; obtain ⟨h1, h2, h3, h4⟩ := h; subst h1 h2 h3 h4; rfl) else .isFalse fun e => h (by subst e; simp)
def Quad.p (i : Quad) : P := .tup [.str i.n, .int i.s, .str i.o, .int i.t]
instance : Enc Quad where
  p := Quad.p
  ty := .tup [.str, .int, .str, .int]
  has := fun a => by simp [Quad.p, Ty.has, Ty.hasL]
  inj := fun {a b} h => by
    obtain ⟨b1, q1, w1, e1⟩ := a
    obtain ⟨b2, q2, w2, e2⟩ := b
    simp only [Quad.p, P.tup.injEq, List.cons.injEq, P.int.injEq, P.str.injEq] at h
    obtain ⟨h1, h2, h3, h4, _⟩ := h
    subst h1 h2 h3 h4
    rfl
theorem quad_key : (Enc.ty Quad).key = true := by decide
theorem quad_ord : (Enc.ty Quad).ord = true := by decide
theorem quad_tup (q : Quad) : en q = .tup [.str q.n, .int q.s, .str q.o, .int q.t] := rfl
/-- a loop that takes a state on, turn by turn -/
theorem for_st {α σ : Type} (en : α → P) (I : σ → DS → Mem → Prop) (step : σ → α → σ) {g : FG} {fb : FS} : ∀ {xs : List α} {s : σ} {δ : DS} {m : Mem}, (∀ x ∈ xs, ∀ s δ m, I s δ m → ∃ δ1 δ2 m2, g (.p (en x)) δ = some δ1 ∧ fb δ1 m = .nx δ2 m2 ∧ I (step s x) δ2 m2) → I s δ m →
    ∃ δ' m', forL g fb (fun _ => true) (xs.map en) δ m = .nx δ' m' ∧ I (xs.foldl step s) δ' m'
  | [], s, δ, m, _, h => ⟨δ, m, by simp [forL], h⟩
  | x :: xs, s, δ, m, ht, h => by
    obtain ⟨δ1, δ2, m2, e1, e2, h2⟩ := ht x List.mem_cons_self s δ m h
    obtain ⟨δ', m', e3, h3⟩ := for_st en I step (fun y hy => ht y (List.mem_cons_of_mem _ hy)) h2
    refine ⟨δ', m', ?_, h3⟩
    rw [List.map_cons, forL]
    simp [e1, e2, e3]
theorem fold_addAll {α β : Type} [DecidableEq β] (f : α → List β) : ∀ (xs : List α) (K : List β), xs.foldl (fun K x => addAll K (f x)) K = addAll K (xs.flatMap f)
  | [], K => rfl
  | x :: xs, K => by rw [List.foldl_cons, fold_addAll f xs, List.flatMap_cons, addAll_append]
end DL

set_option Elab.async false
set_option linter.all false
set_option maxRecDepth 100000
set_option maxHeartbeats 2000000
/-! Plain part nb: pairs. -/
noncomputable section
namespace DL
open PySem PySem.Spec PyProof.Rows L2
def roomOf (hs : List Rm) (n : Str) : Rm := (hs.find? fun y => decide (y.name = n)).getD ⟨"", ⟨0, [], [], []⟩, []⟩
theorem roomOf_eq : ∀ {hs : List Rm}, (hs.map Rm.name).Nodup → ∀ x ∈ hs, roomOf hs x.name = x
  | [], _, x, h => by cases h
  | y :: hs, nd, x, h => by
    have nd' := List.nodup_cons.mp (by rw [List.map_cons] at nd; exact nd)
    unfold roomOf
    rw [List.find?_cons]
    rcases List.mem_cons.mp h with h | h
    · subst h
      rw [decide_eq_true rfl]
      rfl
    · have : y.name ≠ x.name := fun e => nd'.1 (by rw [e]; exact List.mem_map_of_mem h)
      rw [decide_eq_false this]
      exact roomOf_eq nd'.2 x h
def qlev (q : Qd) : Nat → List Item
  | 0 => q.k0
  | 1 => q.k1
  | 2 => q.k2
  | _ => q.k3
theorem qlev_lev {bk : Book} {q : Qd} (h : q.Of bk) (l : Nat) : lev bk l = sortZ (qlev q l) := by
  have e := Four.eq h
  simp only [List.map_cons, List.map_nil, sets4, List.cons.injEq] at e
  obtain ⟨e0, e1, e2, e3, _⟩ := e
  match l with
  | 0 => exact e0.symm
  | 1 => exact e1.symm
  | 2 => exact e2.symm
  | _ + 3 => exact e3.symm
theorem qlev_at (q : Qd) : ∀ l : Nat, l < 4 → ∃ tr, pIx q.p (.int l) = some (clD (qlev q l) tr)
  | 0, _ => ⟨q.t0, rfl⟩
  | 1, _ => ⟨q.t1, rfl⟩
  | 2, _ => ⟨q.t2, rfl⟩
  | 3, _ => ⟨q.t3, rfl⟩
  | _ + 4, h => by omega
structure QIn (q : Quad) : Prop where
  n : q.n ∈ wds
  s0 : 0 ≤ q.s
  s1 : q.s < 6
  o : q.o ∈ wds
  t0 : 0 ≤ q.t
  t1 : q.t < 6
def univ : List Quad := wds.flatMap fun n => ([0, 1, 2, 3, 4, 5] : List Int).flatMap fun s => wds.flatMap fun o => ([0, 1, 2, 3, 4, 5] : List Int).map fun t => ⟨n, s, o, t⟩
theorem in_univ {q : Quad} (h : QIn q) : q ∈ univ := by
  obtain ⟨n, s, o, t⟩ := q
  obtain ⟨a, b, c, d, e, f⟩ := h
  dsimp only at a b c d e f
  unfold univ
  simp only [List.mem_flatMap, List.mem_map, Quad.mk.injEq]
  refine ⟨n, a, s, ?_, o, d, t, ?_, rfl, rfl, rfl, rfl⟩
  · have hs : s = 0 ∨ s = 1 ∨ s = 2 ∨ s = 3 ∨ s = 4 ∨ s = 5 := by omega
    simp; omega
  · simp; omega
structure GoodK (K : List Quad) : Prop where
  nd : K.Nodup
  inn : ∀ q ∈ K, QIn q
theorem GoodK.len {K : List Quad} (h : GoodK K) : K.length ≤ 576 := by
  have : K.length ≤ univ.length := nodup_le h.nd fun q hq => in_univ (h.inn q hq)
  have e : univ.length = 576 := by decide
  omega
theorem GoodK.add {K : List Quad} (h : GoodK K) {q : Quad} (hq : QIn q) : GoodK (addA K q) := ⟨addA_nd h.nd, fun x hx => (addA_mem.mp hx).elim (h.inn x) fun e => by rw [e]; exact hq⟩
theorem GoodK.all {K L : List Quad} (h : GoodK K) (hq : ∀ q ∈ L, QIn q) : GoodK (addAll K L) := ⟨addAll_nd h.nd, fun x hx => (addAll_mem.mp hx).elim (h.inn x) (hq x)⟩
def gen4 (T : Str → Nat → List Item) (n : Str) (it : Item) (o : Str) : List Quad := (T o it.l.toNat).map fun low => ⟨n, it.s, o, low.s⟩
def gen2 (T : Str → Nat → List Item) (x : Rm) (it : Item) : List Quad := x.below.flatMap (gen4 T x.name it)
def gen1 (T : Str → Nat → List Item) (x : Rm) : List Quad := (T x.name 3).flatMap (gen2 T x)
def gens (T : Str → Nat → List Item) (hs : List Rm) : List Quad := hs.flatMap (gen1 T)
theorem gens_mem {T : Str → Nat → List Item} {hs : List Rm} {q : Quad} : q ∈ gens T hs ↔ ∃ x ∈ hs, ∃ it ∈ T x.name 3, ∃ o ∈ x.below, ∃ low ∈ T o it.l.toNat, q = ⟨x.name, it.s, o, low.s⟩ := by
  unfold gens gen1 gen2 gen4
  simp only [List.mem_flatMap, List.mem_map]
  constructor
  · rintro ⟨x, hx, it, hi, o, ho, low, hl, rfl⟩
    exact ⟨x, hx, it, hi, o, ho, low, hl, rfl⟩
  · rintro ⟨x, hx, it, hi, o, ho, low, hl, rfl⟩
    exact ⟨x, hx, it, hi, o, ho, low, hl, rfl⟩
theorem gens_congr {T U : Str → Nat → List Item} {hs : List Rm} (h : ∀ n l i, i ∈ T n l ↔ i ∈ U n l) {q : Quad} : q ∈ gens T hs ↔ q ∈ gens U hs := by
  rw [gens_mem, gens_mem]
  constructor
  · rintro ⟨x, hx, it, hi, o, ho, low, hl, e⟩
    exact ⟨x, hx, it, (h _ _ _).mp hi, o, ho, low, (h _ _ _).mp hl, e⟩
  · rintro ⟨x, hx, it, hi, o, ho, low, hl, e⟩
    exact ⟨x, hx, it, (h _ _ _).mpr hi, o, ho, low, (h _ _ _).mpr hl, e⟩
/-- what is in the sets of a house -/
structure TOk (hs : List Rm) (T : Str → Nat → List Item) : Prop where
  inn : ∀ x ∈ hs, ∀ l, ∀ i ∈ T x.name l, i.In x.bk
theorem below_of {hs : List Rm} (h : HouseOk hs) {x : Rm} (hx : x ∈ hs) {o : Str} (ho : o ∈ x.below) : ∃ y ∈ hs, y.name = o := List.mem_map.mp ((h.ok x hx).below.subset ho)
theorem quad_in {hs : List Rm} (h : HouseOk hs) {T : Str → Nat → List Item} (t : TOk hs T) {x : Rm} (hx : x ∈ hs) {it : Item} (hi : it ∈ T x.name 3) {o : Str} (ho : o ∈ x.below) {l : Nat} {low : Item} (hl : low ∈ T o l) : QIn ⟨x.name, it.s, o, low.s⟩ := by
  obtain ⟨y, hy, rfl⟩ := below_of h hx ho
  have a := t.inn x hx 3 it hi
  have b := t.inn y hy l low hl
  have := (h.ok x hx).bk.n2
  have := (h.ok y hy).bk.n2
  have := a.s1
  have := b.s1
  exact ⟨h.mem _ (List.mem_map_of_mem hx), a.s0, by show it.s < 6; omega, h.mem _ (List.mem_map_of_mem hy), b.s0, by show low.s < 6; omega⟩
theorem gens_in {hs : List Rm} (h : HouseOk hs) {T : Str → Nat → List Item} (t : TOk hs T) : ∀ q ∈ gens T hs, QIn q := by
  intro q hq
  obtain ⟨x, hx, it, hi, o, ho, low, hl, rfl⟩ := gens_mem.mp hq
  exact quad_in h t hx hi ho hl
def levT (hs : List Rm) : Str → Nat → List Item := fun n l => lev (roomOf hs n).bk l
/-- all pairs of a house, ascending -/
def prs (hs : List Rm) : List Quad := sortZ (addAll [] (gens (levT hs) hs))
theorem levT_ok {hs : List Rm} (h : HouseOk hs) : TOk hs (levT hs) := ⟨fun x hx l i hi => by
  unfold levT at hi
  rw [roomOf_eq (names_nd h) x hx] at hi
  exact (set4_ok (h.ok x hx).bk (h.ok x hx).bk.n2 (h.ok x hx).few _ (lev_mem x.bk l)).inn i hi⟩
theorem prs_good {hs : List Rm} (h : HouseOk hs) : GoodK (addAll [] (gens (levT hs) hs)) := GoodK.all ⟨List.nodup_nil, by simp⟩ (gens_in h (levT_ok h))
theorem prs_eq {hs : List Rm} {K : List Quad} (nd : K.Nodup) (hm : ∀ q, q ∈ K ↔ q ∈ gens (levT hs) hs) : sortZ K = prs hs := by
  refine sortZ_eq quad_ord (perm_of nd (addAll_nd List.nodup_nil) fun q => ?_)
  rw [addAll_mem, hm]
  simp
end DL

set_option Elab.async false
set_option linter.all false
set_option maxRecDepth 100000
set_option maxHeartbeats 2000000
/-! Plain part nc: pairs_of. -/
noncomputable section
namespace DL
open PySem PySem.Spec PyProof.Rows L2
theorem set_tr {K : List Quad} (hl : K.length < 16777216) (q : Quad) (m r : Mem) : setM (.ref m.length) (.p q.p) (.p (.bl true)) (m ++ some (trD K) :: r) = some (m ++ some (trD (addA K q)) :: r) := by
  have h : setO (trD K) q.p (.bl true) = some (trD (addA K q)) := put_any quad_key (quad_tup q) hl
  unfold setM
  simp only [own_at0, h, Option.map_some, own_set0]
theorem sit_any (fa : FE) {δ : DS} {m m' : Mem} {x : P} {xs : List P} (h : fa δ m = .ok (.p x) m') (hx : itOf (.p x) m' = some ⟨xs, fun _ => true⟩) : sIt fa δ m = .ok ⟨xs, fun _ => true⟩ m' := by
  rw [e_It, h]
  show itR (itOf _ _) _ = _
  rw [hx]
  rfl
def qT (hs : List Rm) (F : Rm → Qd) : Str → Nat → List Item := fun n l => qlev (F (roomOf hs n)) l
theorem qT_mem {hs : List Rm} (h : HouseOk hs) {F : Rm → Qd} (hF : ∀ x ∈ hs, (F x).Of x.bk) {x : Rm} (hx : x ∈ hs) (l : Nat) (i : Item) : i ∈ qT hs F x.name l ↔ i ∈ levT hs x.name l := by
  unfold qT levT
  rw [roomOf_eq (names_nd h) x hx, qlev_lev (hF x hx) l, sortZ_mem]
theorem qT_ok {hs : List Rm} (h : HouseOk hs) {F : Rm → Qd} (hF : ∀ x ∈ hs, (F x).Of x.bk) : TOk hs (qT hs F) := ⟨fun x hx l i hi => (levT_ok h).inn x hx l i ((qT_mem h hF hx l i).mp hi)⟩
theorem gens_eq {hs : List Rm} (h : HouseOk hs) {T U : Str → Nat → List Item} (e : ∀ x ∈ hs, ∀ l i, i ∈ T x.name l ↔ i ∈ U x.name l) {q : Quad} : q ∈ gens T hs ↔ q ∈ gens U hs := by
  rw [gens_mem, gens_mem]
  constructor
  · rintro ⟨x, hx, it, hi, o, ho, low, hl, ee⟩
    obtain ⟨y, hy, rfl⟩ := below_of h hx ho
    exact ⟨x, hx, it, (e x hx _ _).mp hi, _, ho, low, (e y hy _ _).mp hl, ee⟩
  · rintro ⟨x, hx, it, hi, o, ho, low, hl, ee⟩
    obtain ⟨y, hy, rfl⟩ := below_of h hx ho
    exact ⟨x, hx, it, (e x hx _ _).mpr hi, _, ho, low, (e y hy _ _).mpr hl, ee⟩
end DL

set_option Elab.async false
set_option linter.all false
set_option maxRecDepth 100000
set_option maxHeartbeats 2000000
/-! Plain part nd: pairs, books by names, uneasy. -/
noncomputable section
namespace DL
open PySem PySem.Spec PyProof.Rows L2
abbrev nmK (hs : List Rm) : List Key := hs.map fun x => Sum.inr x.name
def booksP (hs : List Rm) : P := .dK (nmK hs) (hs.map fun x => x.bk.p)
def belowsP (hs : List Rm) : P := .dK (nmK hs) (hs.map fun x => .tup (x.below.map P.str))
theorem books_of_ok {hs : List Rm} (h : HouseOk hs) (m : Mem) : s_books_of [.p (.tup (hs.map Rm.p))] m = .ok (.p (booksP hs)) m := by
  have l2 := h.l2
  have f1 := dcL_map (g := gT 2 (gsC (gN 1) (gsC (gT 2 (gsC (gN 2) (gsC (gN 3) gsN))) gsN))) (fk := sName 1) (fv := sName 2) (ok := fun _ => true) (δ := [.p (.tup (hs.map Rm.p)), .und, .und, .und]) (m := m) Rm.p (fun x => .str x.name) (fun x => x.bk.p) rfl (xs := hs) fun x hx => ⟨[.p (.tup (hs.map Rm.p)), .p (.str x.name), .p x.bk.p, .p (.tup (x.below.map P.str))], by simp [Rm.p], by simp, by simp⟩
  have f2 := dOf_str Rm.name (fun x => x.bk.p) (names_nd h) (by omega)
  unfold s_books_of b_books_of
  simp [List.replicate_succ, n_books_of, f1, f2, fzD, fzO]
  rfl
theorem belows_of_ok {hs : List Rm} (h : HouseOk hs) (m : Mem) : s_belows_of [.p (.tup (hs.map Rm.p))] m = .ok (.p (belowsP hs)) m := by
  have l2 := h.l2
  have f1 := dcL_map (g := gT 2 (gsC (gN 1) (gsC (gT 2 (gsC (gN 2) (gsC (gN 3) gsN))) gsN))) (fk := sName 1) (fv := sName 3) (ok := fun _ => true) (δ := [.p (.tup (hs.map Rm.p)), .und, .und, .und]) (m := m) Rm.p (fun x => .str x.name) (fun x => .tup (x.below.map P.str)) rfl (xs := hs) fun x hx => ⟨[.p (.tup (hs.map Rm.p)), .p (.str x.name), .p x.bk.p, .p (.tup (x.below.map P.str))], by simp [Rm.p], by simp, by simp⟩
  have f2 := dOf_str Rm.name (fun x => P.tup (x.below.map P.str)) (names_nd h) (by omega)
  unfold s_belows_of b_belows_of
  simp [List.replicate_succ, n_belows_of, f1, f2, fzD, fzO]
  rfl
theorem lbooks_ok {hs : List Rm} (h : HouseOk hs) (m : Mem) : s__law_books [.p (.tup (hs.map Rm.p))] m = .ok (.p (booksP hs)) m := by
  have l2 := h.l2
  have c := compL_map (g := gT 2 (gsC (gN 1) (gsC (gN 2) gsN))) (ft := sYes) (fe := sTup (sCons (sName 1) (sCons (sOp pIx (sName 2) (sC (.int 0))) sNil))) (ok := fun _ => true) (δ := [.p (.tup (hs.map Rm.p)), .und, .und]) (m := m) Rm.p id (fun _ => true) (fun x => P.tup [.str x.name, x.bk.p]) rfl (xs := hs) fun x hx => ⟨[.p (.tup (hs.map Rm.p)), .p (.str x.name), .p (.tup [x.bk.p, .tup (x.below.map P.str)])], by simp [Rm.p], by simp, fun _ => by simp⟩
  have f0 : (((hs.filter fun _ => true).map fun x => P.tup [.str x.name, x.bk.p]).map id) = hs.map fun x => P.tup [.str x.name, x.bk.p] := by rw [List.map_id, List.filter_eq_self.mpr (by simp)]
  rw [f0] at c
  have mk := mkL_ok (xs := hs.map fun x => P.tup [.str x.name, x.bk.p]) (m := m) (by rw [List.length_map]; omega)
  have gd : gDict false [.lst (hs.map fun x => P.tup [.str x.name, x.bk.p])] = some (.dK (nmK hs) (hs.map fun x => x.bk.p)) := by
    show (pairsOf _).bind (dOf false) = _
    rw [pairsOf_map]
    exact dOf_str Rm.name (fun x => x.bk.p) (names_nd h) (by omega)
  generalize (hs.map fun x => P.tup [.str x.name, x.bk.p]) = L at *
  unfold s__law_books b__law_books
  simp [List.replicate_succ, n__law_books, c, mk, gd, fzD, fzO]
  rfl
theorem lbelows_ok {hs : List Rm} (h : HouseOk hs) (m : Mem) : s__law_belows [.p (.tup (hs.map Rm.p))] m = .ok (.p (belowsP hs)) m := by
  have l2 := h.l2
  have c := compL_map (g := gT 2 (gsC (gN 1) (gsC (gN 2) gsN))) (ft := sYes) (fe := sTup (sCons (sName 1) (sCons (sOp pIx (sName 2) (sC (.int 1))) sNil))) (ok := fun _ => true) (δ := [.p (.tup (hs.map Rm.p)), .und, .und]) (m := m) Rm.p id (fun _ => true) (fun x => P.tup [.str x.name, .tup (x.below.map P.str)]) rfl (xs := hs) fun x hx => ⟨[.p (.tup (hs.map Rm.p)), .p (.str x.name), .p (.tup [x.bk.p, .tup (x.below.map P.str)])], by simp [Rm.p], by simp, fun _ => by simp⟩
  have f0 : (((hs.filter fun _ => true).map fun x => P.tup [.str x.name, .tup (x.below.map P.str)]).map id) = hs.map fun x => P.tup [.str x.name, .tup (x.below.map P.str)] := by rw [List.map_id, List.filter_eq_self.mpr (by simp)]
  rw [f0] at c
  have mk := mkL_ok (xs := hs.map fun x => P.tup [.str x.name, .tup (x.below.map P.str)]) (m := m) (by rw [List.length_map]; omega)
  have gd : gDict false [.lst (hs.map fun x => P.tup [.str x.name, .tup (x.below.map P.str)])] = some (.dK (nmK hs) (hs.map fun x => .tup (x.below.map P.str))) := by
    show (pairsOf _).bind (dOf false) = _
    rw [pairsOf_map]
    exact dOf_str Rm.name (fun x => P.tup (x.below.map P.str)) (names_nd h) (by omega)
  generalize (hs.map fun x => P.tup [.str x.name, .tup (x.below.map P.str)]) = L at *
  unfold s__law_belows b__law_belows
  simp [List.replicate_succ, n__law_belows, c, mk, gd, fzD, fzO]
  rfl
theorem book_at {hs : List Rm} (h : HouseOk hs) {x : Rm} (hx : x ∈ hs) : pIx (booksP hs) (.str x.name) = some x.bk.p := lookK_map Rm.name (fun x => x.bk.p) (names_nd h) x hx
theorem below_at {hs : List Rm} (h : HouseOk hs) {x : Rm} (hx : x ∈ hs) : pIx (belowsP hs) (.str x.name) = some (.tup (x.below.map P.str)) := lookK_map Rm.name (fun x => P.tup (x.below.map P.str)) (names_nd h) x hx
end DL

set_option Elab.async false
set_option linter.all false
set_option maxRecDepth 100000
set_option maxHeartbeats 2000000
/-! Plain part ne: shapes, their levels. -/
noncomputable section
namespace DL
open PySem PySem.Spec PyProof.Rows L2
inductive Shp where
  | mk (n : Str) (s : Int) (h : Bool) (bs : List Shp)
mutual
def Shp.p : Shp → P
  | .mk n s h bs => .tup [.str n, .int s, .bl h, .tup (Shp.pL bs)]
def Shp.pL : List Shp → List P
  | [] => []
  | b :: bs => b.p :: Shp.pL bs
end
theorem Shp.pL_eq : ∀ bs : List Shp, Shp.pL bs = bs.map Shp.p
  | [] => rfl
  | b :: bs => by rw [Shp.pL, Shp.pL_eq bs]; rfl
mutual
def Shp.dep : Shp → Nat
  | .mk _ _ _ bs => Shp.depL bs + 1
def Shp.depL : List Shp → Nat
  | [] => 0
  | b :: bs => max b.dep (Shp.depL bs)
end
theorem Shp.depL_le : ∀ {bs : List Shp} {b : Shp}, b ∈ bs → b.dep ≤ Shp.depL bs
  | [], b, h => by cases h
  | c :: bs, b, h => by
    rw [Shp.depL]
    rcases List.mem_cons.mp h with h | h
    · subst h; omega
    · have := Shp.depL_le h; omega
mutual
def Shp.lv (T : Str → Nat → List Item) : Shp → Nat → Bool
  | .mk n s h bs, l => (T n l).any fun i => decide (i.s = s) && decide (i.h = h) && Shp.lvL T bs i.l.toNat
def Shp.lvL (T : Str → Nat → List Item) : List Shp → Nat → Bool
  | [], _ => true
  | b :: bs, l => Shp.lv T b l && Shp.lvL T bs l
end
theorem Shp.lvL_eq (T : Str → Nat → List Item) (l : Nat) : ∀ bs : List Shp, Shp.lvL T bs l = bs.all fun b => b.lv T l
  | [] => by rw [Shp.lvL]; rfl
  | b :: bs => by rw [Shp.lvL, Shp.lvL_eq T l bs, List.all_cons]
mutual
def Shp.of (hs : List Rm) : Shp → Prop
  | .mk n _ _ bs => n ∈ hs.map Rm.name ∧ bs.length ≤ 100 ∧ Shp.ofL hs bs
def Shp.ofL (hs : List Rm) : List Shp → Prop
  | [] => True
  | b :: bs => Shp.of hs b ∧ Shp.ofL hs bs
end
theorem Shp.ofL_mem {hs : List Rm} : ∀ {bs : List Shp}, Shp.ofL hs bs → ∀ b ∈ bs, Shp.of hs b
  | [], _, b, h => by cases h
  | c :: bs, o, b, h => by
    rw [Shp.ofL] at o
    rcases List.mem_cons.mp h with h | h
    · subst h; exact o.1
    · exact Shp.ofL_mem o.2 b h
theorem any_ok {xs : List Bool} : gAny [.lst (xs.map P.bl)] = some (.bl (xs.any id)) := by
  have e : ∀ xs : List Bool, bools (xs.map P.bl) = some xs := by
    intro xs
    induction xs with
    | nil => rfl
    | cons x xs ih => rw [List.map_cons, bools, ih]; rfl
  show (bools _).map _ = _
  rw [e]
  rfl
theorem all_ok2 {xs : List Bool} : gAll [.lst (xs.map P.bl)] = some (.bl (xs.all id)) := by
  have e : ∀ xs : List Bool, bools (xs.map P.bl) = some xs := by
    intro xs
    induction xs with
    | nil => rfl
    | cons x xs ih => rw [List.map_cons, bools, ih]; rfl
  show (bools _).map _ = _
  rw [e]
  rfl
/-- the sets of a house as a dict: any walked values -/
structure SetsAt (hs : List Rm) (T : Str → Nat → List Item) (SV : P) : Prop where
  at_ : ∀ n ∈ hs.map Rm.name, ∃ X : Nat → P, pIx SV (.str n) = some (.tup [X 0, X 1, X 2, X 3]) ∧ ∀ l, l < 4 → ∀ m, itOf (.p (X l)) m = some ⟨(T n l).map Item.p, fun _ => true⟩
  few : ∀ n ∈ hs.map Rm.name, ∀ l, (T n l).length ≤ 96
  l03 : ∀ n ∈ hs.map Rm.name, ∀ l, ∀ i ∈ T n l, 0 ≤ i.l ∧ i.l ≤ 3
def lv4 (f : Nat → Bool) : P := .lst [.bl (f 0), .bl (f 1), .bl (f 2), .bl (f 3)]
theorem lv4_at (f : Nat → Bool) : ∀ l : Nat, l < 4 → pIx (lv4 f) (.int l) = some (.bl (f l))
  | 0, _ => rfl
  | 1, _ => rfl
  | 2, _ => rfl
  | 3, _ => rfl
  | _ + 4, h => by omega
theorem is_at_ok (i : Item) (n : Str) (s : Int) (h : Bool) (b : P) (m : Mem) : s_is_at [.p i.p, .p (.tup [.str n, .int s, .bl h, b])] m = .ok (.p (.bl (decide (i.s = s) && decide (i.h = h)))) m := by
  have q1 : pEq (.int i.s) (.int s) = some (.bl (decide (i.s = s))) := en_eq i.s s
  unfold s_is_at b_is_at
  simp [List.replicate_succ, n_is_at, q1]
theorem nums4 {z : Int} (h : z ∈ numsTo 4) : ∃ l : Nat, l < 4 ∧ z = l := by
  have e : numsTo 4 = [0, 1, 2, 3] := rfl
  rw [e] at h
  simp only [List.mem_cons, List.not_mem_nil, or_false] at h
  rcases h with rfl | rfl | rfl | rfl
  · exact ⟨0, by decide, rfl⟩
  · exact ⟨1, by decide, rfl⟩
  · exact ⟨2, by decide, rfl⟩
  · exact ⟨3, by decide, rfl⟩
theorem levels_ok {hs : List Rm} {T : Str → Nat → List Item} {SV : P} (S : SetsAt hs T SV) : ∀ (d : Nat) (sh : Shp), sh.of hs → sh.dep ≤ d → ∀ m, sr_levels_of d [.p SV, .p sh.p] m = .ok (.p (lv4 (sh.lv T))) m := by
  intro d
  induction d with
  | zero => intro sh _ hd; cases sh; rw [Shp.dep] at hd; omega
  | succ d ih =>
    intro sh ho hd m
    obtain ⟨n, s, h, bs⟩ := sh
    rw [Shp.of] at ho
    obtain ⟨hn, hbl, hbs⟩ := ho
    rw [Shp.dep] at hd
    obtain ⟨X, eX, hX⟩ := S.at_ n hn
    have hp : (Shp.mk n s h bs).p = .tup [.str n, .int s, .bl h, .tup (bs.map Shp.p)] := by rw [Shp.p, Shp.pL_eq]
    obtain ⟨sp, hsp⟩ : ∃ sp, (Shp.mk n s h bs).p = sp := ⟨_, rfl⟩
    have i0 : pIx sp (.int 0) = some (.str n) := by rw [← hsp, hp]; rfl
    have i3 : pIx sp (.int 3) = some (.tup (bs.map Shp.p)) := by rw [← hsp, hp]; rfl
    have at_ : ∀ i μ, s_is_at [.p (Item.p i), .p sp] μ = .ok (.p (.bl (decide (i.s = s) && decide (i.h = h)))) μ := fun i μ => by rw [← hsp, hp]; exact is_at_ok i n s h _ μ
    have c1 := compL_map (g := gN 4) (ft := sYes) (fe := sFn (sr_levels_of d) (sCons (sName 0) (sCons (sName 4) sNil))) (ok := fun _ => true) (δ := [.p SV, .p sp, .und, .und, .und, .und, .und, .und]) (m := m) Shp.p (fun b => lv4 (b.lv T)) (fun _ => true) id rfl (xs := bs) fun b hb => ⟨[.p SV, .p sp, .und, .und, .p b.p, .und, .und, .und], by simp, by simp, fun _ => by
      have := ih b (Shp.ofL_mem hbs b hb) (by have := Shp.depL_le hb; omega) m
      simp [this]⟩
    have f1 : ((bs.filter fun _ => true).map id) = bs := by simp
    rw [f1] at c1
    obtain ⟨B, hB⟩ : ∃ B, (bs.map fun b => lv4 (b.lv T)) = B := ⟨_, rfl⟩
    have g : ∀ l : Nat, l < 4 → sCall gAll (sCons (sLc (sIt (sName 2)) (gN 6) sYes (sOp pIx (sName 6) (sName 5)) [6]) sNil) [.p SV, .p sp, .p (.lst B), .und, .und, .p (.int l), .und, .und] m = .ok (.p (.bl (Shp.lvL T bs l))) m := by
      intro l hl
      have c := compL_map (g := gN 6) (ft := sYes) (fe := sOp pIx (sName 6) (sName 5)) (ok := fun _ => true) (δ := [.p SV, .p sp, .p (.lst B), .und, .und, .p (.int l), .und, .und]) (m := m) (fun b : Shp => lv4 (b.lv T)) P.bl (fun _ => true) (fun b => b.lv T l) rfl (xs := bs) fun b _ => ⟨[.p SV, .p sp, .p (.lst B), .und, .und, .p (.int l), .p (lv4 (b.lv T)), .und], by simp, by simp, fun _ => by simp [lv4_at _ l hl]⟩
      have f : ((bs.filter fun _ => true).map fun b => b.lv T l) = bs.map fun b => b.lv T l := by rw [List.filter_eq_self.mpr (by simp)]
      rw [f, hB] at c
      have mk := mkL_ok (xs := (bs.map fun b => b.lv T l).map P.bl) (m := m) (by rw [List.length_map, List.length_map]; omega)
      have ga := all_ok2 (xs := bs.map fun b => b.lv T l)
      have e : (bs.map fun b => b.lv T l).all id = Shp.lvL T bs l := by rw [Shp.lvL_eq, List.all_map]; rfl
      rw [e] at ga
      generalize (bs.map fun b => b.lv T l).map P.bl = Z at *
      simp [c, mk, ga]
    have c2 := compL_map (g := gN 5) (ft := sYes) (fe := sCall gAll (sCons (sLc (sIt (sName 2)) (gN 6) sYes (sOp pIx (sName 6) (sName 5)) [6]) sNil)) (ok := fun _ => true) (δ := [.p SV, .p sp, .p (.lst B), .und, .und, .und, .und, .und]) (m := m) P.int P.bl (fun _ => true) (fun z => Shp.lvL T bs z.toNat) rfl (xs := numsTo 4) fun z hz => by
      obtain ⟨l, hl, rfl⟩ := nums4 hz
      exact ⟨[.p SV, .p sp, .p (.lst B), .und, .und, .p (.int l), .und, .und], by simp, by simp, fun _ => g l hl⟩
    have f2 : (((numsTo 4).filter fun _ => true).map fun z => Shp.lvL T bs z.toNat).map P.bl = [.bl (Shp.lvL T bs 0), .bl (Shp.lvL T bs 1), .bl (Shp.lvL T bs 2), .bl (Shp.lvL T bs 3)] := rfl
    rw [f2] at c2
    obtain ⟨G, hG⟩ : ∃ G, [P.bl (Shp.lvL T bs 0), .bl (Shp.lvL T bs 1), .bl (Shp.lvL T bs 2), .bl (Shp.lvL T bs 3)] = G := ⟨_, rfl⟩
    have gl : P.lst G = lv4 (Shp.lvL T bs) := by rw [← hG]; rfl
    have w : ∀ l : Nat, l < 4 → sCall gAny (sCons (sLc (sIt (sName 6)) (gN 7) sYes (sAndV (sFn s_is_at (sCons (sName 7) (sCons (sName 1) sNil))) (sOp pIx (sName 3) (sOp pIx (sName 7) (sC (.int 3))))) [7]) sNil) [.p SV, .p sp, .p (.lst B), .p (.lst G), .und, .und, .p (X l), .und] m = .ok (.p (.bl ((Shp.mk n s h bs).lv T l))) m := by
      intro l hl
      have c := compL_map (g := gN 7) (ft := sYes) (fe := sAndV (sFn s_is_at (sCons (sName 7) (sCons (sName 1) sNil))) (sOp pIx (sName 3) (sOp pIx (sName 7) (sC (.int 3))))) (ok := fun _ => true) (δ := [.p SV, .p sp, .p (.lst B), .p (.lst G), .und, .und, .p (X l), .und]) (m := m) Item.p P.bl (fun _ => true) (fun i => decide (i.s = s) && decide (i.h = h) && Shp.lvL T bs i.l.toNat) rfl (xs := T n l) fun i hi => ⟨[.p SV, .p sp, .p (.lst B), .p (.lst G), .und, .und, .p (X l), .p i.p], by simp, by simp, fun _ => by
        have b := S.l03 n hn l i hi
        obtain ⟨k, hk⟩ : ∃ k : Nat, i.l = (k : Int) := ⟨i.l.toNat, by omega⟩
        have lk := lv4_at (Shp.lvL T bs) k (by omega)
        rw [hk]
        rw [gl]
        cases h1 : (decide (i.s = s) && decide (i.h = h)) with
        | true => simp [at_, h1, hk, lk]
        | false => simp [at_, h1, hk, lk]⟩
      have f : ((T n l).filter fun _ => true) = T n l := List.filter_eq_self.mpr (by simp)
      rw [f] at c
      have mk := mkL_ok (xs := ((T n l).map fun i => decide (i.s = s) && decide (i.h = h) && Shp.lvL T bs i.l.toNat).map P.bl) (m := m) (by rw [List.length_map, List.length_map]; have := S.few n hn l; omega)
      have ga := any_ok (xs := (T n l).map fun i => decide (i.s = s) && decide (i.h = h) && Shp.lvL T bs i.l.toNat)
      have e : (((T n l).map fun i => decide (i.s = s) && decide (i.h = h) && Shp.lvL T bs i.l.toNat).any id) = (Shp.mk n s h bs).lv T l := by rw [Shp.lv, List.any_map]; rfl
      rw [e] at ga
      have it : sIt (sName 6) [.p SV, .p sp, .p (.lst B), .p (.lst G), .und, .und, .p (X l), .und] m = .ok ⟨(T n l).map Item.p, fun _ => true⟩ m := sit_any _ (by simp) (hX l hl m)
      generalize ((T n l).map fun i => decide (i.s = s) && decide (i.h = h) && Shp.lvL T bs i.l.toNat).map P.bl = Z at *
      simp [-e_It, it, c, mk, ga]
    have c3 := compL_map (g := gN 6) (ft := sYes) (fe := sCall gAny (sCons (sLc (sIt (sName 6)) (gN 7) sYes (sAndV (sFn s_is_at (sCons (sName 7) (sCons (sName 1) sNil))) (sOp pIx (sName 3) (sOp pIx (sName 7) (sC (.int 3))))) [7]) sNil)) (ok := fun _ => true) (δ := [.p SV, .p sp, .p (.lst B), .p (.lst G), .und, .und, .und, .und]) (m := m) X P.bl (fun _ => true) (fun l => (Shp.mk n s h bs).lv T l) rfl (xs := [0, 1, 2, 3]) fun l hl => ⟨[.p SV, .p sp, .p (.lst B), .p (.lst G), .und, .und, .p (X l), .und], by simp, by simp, fun _ => w l (by
      simp only [List.mem_cons, List.not_mem_nil, or_false] at hl
      omega)⟩
    have f3 : ((([0, 1, 2, 3] : List Nat).filter fun _ => true).map fun l => (Shp.mk n s h bs).lv T l).map P.bl = [.bl ((Shp.mk n s h bs).lv T 0), .bl ((Shp.mk n s h bs).lv T 1), .bl ((Shp.mk n s h bs).lv T 2), .bl ((Shp.mk n s h bs).lv T 3)] := rfl
    rw [f3] at c3
    have e4 : ([0, 1, 2, 3] : List Nat).map X = [X 0, X 1, X 2, X 3] := rfl
    rw [e4] at c3
    have it1 := sit_tup (sOp pIx (sName 1) (sC (.int 3))) (δ := [.p SV, .p sp, .und, .und, .und, .und, .und, .und]) (m := m) (m' := m) (xs := bs.map Shp.p) (by simp [i3])
    have it2 : sIt1 (sCons (sOp pAdd (sC (.int 3)) (sC (.int 1))) sNil) [.p SV, .p sp, .p (.lst B), .und, .und, .und, .und, .und] m = .ok ⟨(numsTo 4).map P.int, fun _ => true⟩ m := it1_nat (x := 4) (k := 4) (by
      have a : pAdd (.int 3) (.int 1) = some (.int 4) := rfl
      simp [a]) rfl (by decide)
    have it3 := sit_tup (sOp pIx (sName 0) (sOp pIx (sName 1) (sC (.int 0)))) (δ := [.p SV, .p sp, .p (.lst B), .p (.lst G), .und, .und, .und, .und]) (m := m) (m' := m) (xs := [X 0, X 1, X 2, X 3]) (by simp [i0, eX])
    obtain ⟨X4, hX4⟩ : ∃ X4, [X 0, X 1, X 2, X 3] = X4 := ⟨_, rfl⟩
    obtain ⟨R4, hR4⟩ : ∃ R4, [P.bl ((Shp.mk n s h bs).lv T 0), .bl ((Shp.mk n s h bs).lv T 1), .bl ((Shp.mk n s h bs).lv T 2), .bl ((Shp.mk n s h bs).lv T 3)] = R4 := ⟨_, rfl⟩
    have rl : P.lst R4 = lv4 ((Shp.mk n s h bs).lv T) := by rw [← hR4]; rfl
    have m1 := mkL_ok (xs := B) (m := m) (by rw [← hB, List.length_map]; omega)
    have m2 := mkL_ok (xs := G) (m := m) (by rw [← hG]; simp)
    have m3 := mkL_ok (xs := R4) (m := m) (by rw [← hR4]; simp)
    rw [hB] at c1
    rw [hG] at c2
    rw [hX4, hR4] at c3
    rw [hX4] at it3
    rw [hsp, ← rl]
    generalize (bs.map Shp.p) = BP at *
    generalize (numsTo 4).map P.int = N4 at *
    show fnS n_levels_of 2 (b_levels_of (sr_levels_of d)) _ _ = _
    unfold b_levels_of
    simp [-e_It, -e_It1, -e_Call, List.replicate_succ, n_levels_of, it1, it2, it3, c1, c2, c3, m1, m2, m3]
end DL

set_option Elab.async false
set_option linter.all false
set_option maxRecDepth 100000
set_option maxHeartbeats 2000000
/-! Plain part nf: right shapes; has. -/
noncomputable section
namespace DL
open PySem PySem.Spec PyProof.Rows L2
def Shp.name : Shp → Str
  | .mk n _ _ _ => n
mutual
def Shp.size : Shp → Nat
  | .mk _ _ _ bs => Shp.sizeL bs + 1
def Shp.sizeL : List Shp → Nat
  | [] => 0
  | b :: bs => b.size + Shp.sizeL bs
end
mutual
def Shp.right (hs : List Rm) : Shp → Prop
  | .mk n s _ bs => (∃ x ∈ hs, x.name = n ∧ 0 ≤ s ∧ s < x.bk.n ∧ ∀ b ∈ bs, b.name ∈ x.below) ∧ (bs.map Shp.p).Pairwise (fun a b => pLe a b = some (.bl true)) ∧ Shp.rightL hs bs
def Shp.rightL (hs : List Rm) : List Shp → Prop
  | [] => True
  | b :: bs => Shp.right hs b ∧ Shp.rightL hs bs
end
theorem Shp.rightL_mem {hs : List Rm} : ∀ {bs : List Shp}, Shp.rightL hs bs → ∀ b ∈ bs, Shp.right hs b
  | [], _, b, h => by cases h
  | c :: bs, o, b, h => by
    rw [Shp.rightL] at o
    rcases List.mem_cons.mp h with h | h
    · subst h; exact o.1
    · exact Shp.rightL_mem o.2 b h
theorem Shp.sizeL_foldl : ∀ (bs : List Shp) (k : Int), bs.foldl (fun k b => k + (b.size : Int)) k = k + (Shp.sizeL bs : Int)
  | [], k => by rw [Shp.sizeL]; simp
  | b :: bs, k => by rw [List.foldl_cons, Shp.sizeL_foldl bs, Shp.sizeL]; omega
theorem Shp.size_pos (b : Shp) : 1 ≤ b.size := by cases b; rw [Shp.size]; omega
theorem Shp.len_le : ∀ bs : List Shp, bs.length ≤ Shp.sizeL bs
  | [] => by simp
  | b :: bs => by rw [List.length_cons, Shp.sizeL]; have := Shp.len_le bs; have := b.size_pos; omega
mutual
theorem Shp.dep_le : ∀ b : Shp, b.dep ≤ b.size
  | .mk n s h bs => by rw [Shp.dep, Shp.size]; have := Shp.depL_le2 bs; omega
theorem Shp.depL_le2 : ∀ bs : List Shp, Shp.depL bs ≤ Shp.sizeL bs
  | [] => by rw [Shp.depL, Shp.sizeL]; exact Nat.le_refl _
  | b :: bs => by rw [Shp.depL, Shp.sizeL]; have := Shp.dep_le b; have := Shp.depL_le2 bs; omega
end
theorem Shp.ix0 (b : Shp) : pIx b.p (.int 0) = some (.str b.name) := by cases b; rw [Shp.p]; rfl
theorem in_names {hs : List Rm} {α : Type} {n : Str} (hn : n ∈ hs.map Rm.name) (v : Rm → P) (neg : Bool) : pIn neg (.str n) (.dK (nmK hs) (hs.map v)) = some (.bl (xor neg true)) := by
  have e : ∀ hs : List Rm, n ∈ hs.map Rm.name → (lookK (.inr n) (nmK hs) (hs.map v)).isSome = true := by
    intro hs
    induction hs with
    | nil => intro h; cases h
    | cons x hs ih =>
      intro h
      show (lookK (.inr n) (Sum.inr x.name :: nmK hs) (v x :: hs.map v)).isSome = true
      rw [lookK]
      by_cases q : (Sum.inr x.name : Key) = Sum.inr n
      · rw [if_pos q]; rfl
      · rw [if_neg q]
        refine ih ?_
        rw [List.map_cons] at h
        rcases List.mem_cons.mp h with h | h
        · exact absurd (by rw [h]) q
        · exact h
  show some (P.bl (xor neg (lookK (.inr n) (nmK hs) (hs.map v)).isSome)) = _
  rw [e hs hn]
theorem Shp.sizeL_append : ∀ as bs : List Shp, Shp.sizeL (as ++ bs) = Shp.sizeL as + Shp.sizeL bs
  | [], bs => by rw [Shp.sizeL]; simp
  | a :: as, bs => by rw [List.cons_append, Shp.sizeL, Shp.sizeL, Shp.sizeL_append as bs]; omega
/-- a loop, by what is left -/
theorem for_ps {α : Type} (en : α → P) (I : List α → DS → Mem → Prop) {g : FG} {fb : FS} (turn : ∀ x rest δ m, I (x :: rest) δ m → ∃ δ1 δ2 m2, g (.p (en x)) δ = some δ1 ∧ fb δ1 m = .nx δ2 m2 ∧ I rest δ2 m2) : ∀ (xs : List α) (δ : DS) (m : Mem), I xs δ m → ∃ δ' m', forL g fb (fun _ => true) (xs.map en) δ m = .nx δ' m' ∧ I [] δ' m'
  | [], δ, m, h => ⟨δ, m, by simp [forL], h⟩
  | x :: xs, δ, m, h => by
    obtain ⟨δ1, δ2, m2, e1, e2, h2⟩ := turn x xs δ m h
    obtain ⟨δ', m', e3, h3⟩ := for_ps en I turn xs δ2 m2 h2
    refine ⟨δ', m', ?_, h3⟩
    rw [List.map_cons, forL]
    simp [e1, e2, e3]
theorem is_shape_ok {hs : List Rm} (ho : HouseOk hs) : ∀ (d : Nat) (sh : Shp), sh.right hs → sh.dep ≤ d → ∀ most : Int, (sh.size : Int) ≤ most → most ≤ 100 → ∀ m, sr_is_shape_of d [.p (.tup (hs.map Rm.p)), .p sh.p, .p (.int most)] m = .ok (.p (.int sh.size)) m := by
  intro d
  induction d with
  | zero => intro sh _ hd; cases sh; rw [Shp.dep] at hd; omega
  | succ d ih =>
    intro sh hr hd most h1 h2 m
    obtain ⟨n, s, h, bs⟩ := sh
    rw [Shp.right] at hr
    obtain ⟨⟨x, hx, en, s0, s1, hbl⟩, asc, hrs⟩ := hr
    subst en
    rw [Shp.dep] at hd
    rw [Shp.size] at h1 ⊢
    have eb := books_of_ok ho m
    have ew := belows_of_ok ho m
    obtain ⟨hv, ehv⟩ : ∃ hv, P.tup (hs.map Rm.p) = hv := ⟨_, rfl⟩
    rw [ehv] at eb ew ih ⊢
    have hp : (Shp.mk x.name s h bs).p = .tup [.str x.name, .int s, .bl h, .tup (bs.map Shp.p)] := by rw [Shp.p, Shp.pL_eq]
    rw [hp]
    have hlen : bs.length ≤ 100 := by have := Shp.len_le bs; omega
    obtain ⟨B, hB⟩ : ∃ B, bs.map Shp.p = B := ⟨_, rfl⟩
    obtain ⟨sp, hsp⟩ : ∃ sp, P.tup [.str x.name, .int s, .bl h, .tup B] = sp := ⟨_, rfl⟩
    have t0 : s_is_tuple_of [.p sp, .p (.int 4)] m = .ok (.p (.bl true)) m := by rw [← hsp]; exact tuple_of_ok (k := 4) rfl m
    have i0 : pIx sp (.int 0) = some (.str x.name) := by rw [← hsp]; rfl
    have i1 : pIx sp (.int 1) = some (.int s) := by rw [← hsp]; rfl
    have i2 : pIx sp (.int 2) = some (.bl h) := by rw [← hsp]; rfl
    have i3 : pIx sp (.int 3) = some (.tup B) := by rw [← hsp]; rfl
    have wh := whole_ok (v := s) (a := 0) (b := x.bk.n - 1) s0 (by omega) m
    have sb : pSub (.int x.bk.n) (.int 1) = some (.int (x.bk.n - 1)) := rfl
    have ib : pIn true (.str x.name) (booksP hs) = some (.bl false) := in_names (α := Rm) (List.mem_map_of_mem hx) (fun x => x.bk.p) true
    have ba := book_at ho hx
    have wa := below_at ho hx
    have m1 : ¬ most < 1 := by omega
    obtain ⟨δ', m', e, done, e4, e7, hdone, rfl, hm'⟩ := for_ps (g := gN 4) (fb := (sSeq (sAsgN (sFn (sr_is_shape_of d) (sCons (sName 0) (sCons (sName 4) (sCons (sOp pSub (sName 2) (sName 3)) sNil)))) 7)
    (sSeq (sIfS (sOrB (sB (sOp pEq (sName 7) (sC (.int 0)))) (sB (sOp (pIn true) (sOp pIx (sName 4) (sC (.int 0))) (sOp pIx (sName 6) (sOp pIx (sName 1) (sC (.int 0))))))) (sRet (sC (.int 0))) sNx)
    (sAsgN (sOp pAdd (sName 3) (sName 7)) 3)))) Shp.p (fun rest δ μ => ∃ done e4 e7, bs = done ++ rest ∧ δ = [.p hv, .p sp, .p (.int most), .p (.int (1 + (Shp.sizeL done : Int))), e4, .p (booksP hs), .p (belowsP hs), e7, .und, .und] ∧ μ = m) (fun b rest δ μ ⟨done, e4, e7, hdone, hδ, hμ⟩ => by
      subst hδ
      rw [hμ]
      have hb : b ∈ bs := by rw [hdone]; exact List.mem_append_right _ List.mem_cons_self
      have hsz : Shp.sizeL bs = Shp.sizeL done + (b.size + Shp.sizeL rest) := by rw [hdone, Shp.sizeL_append, Shp.sizeL]
      obtain ⟨k, hk⟩ : ∃ k : Int, (Shp.sizeL done : Int) = k := ⟨_, rfl⟩
      obtain ⟨z, hz⟩ : ∃ z : Int, (b.size : Int) = z := ⟨_, rfl⟩
      have z1 : 1 ≤ z := by have := b.size_pos; omega
      have ihb := ih b (Shp.rightL_mem hrs b hb) (by have := Shp.depL_le hb; omega) (most - (1 + k)) (by omega) (by omega) m
      have b0 := Shp.ix0 b
      have inb : pIn true (.str b.name) (.tup (x.below.map P.str)) = some (.bl false) := by
        have := en_inT true b.name x.below
        rw [decide_eq_true (hbl b hb)] at this
        exact this
      have su : pSub (.int most) (.int (1 + k)) = some (.int (most - (1 + k))) := rfl
      have ne : pEq (.int z) (.int 0) = some (.bl false) := by
        have := en_eq z (0 : Int)
        rw [decide_eq_false (by omega)] at this
        exact this
      have ad : pAdd (.int (1 + k)) (.int z) = some (.int (1 + k + z)) := rfl
      rw [hk]
      rw [hz] at ihb
      have fin : 1 + (Shp.sizeL (done ++ [b]) : Int) = 1 + k + z := by rw [Shp.sizeL_append, Shp.sizeL, Shp.sizeL]; omega
      refine ⟨[.p hv, .p sp, .p (.int most), .p (.int (1 + k)), .p b.p, .p (booksP hs), .p (belowsP hs), e7, .und, .und], [.p hv, .p sp, .p (.int most), .p (.int (1 + k + z)), .p b.p, .p (booksP hs), .p (belowsP hs), .p (.int z), .und, .und], m, by simp, ?_, ⟨done ++ [b], _, _, by rw [hdone]; simp, by rw [fin], rfl⟩⟩
      simp [ihb, su, ne, ad, b0, i0, wa, inb]) bs [.p hv, .p sp, .p (.int most), .p (.int 1), .und, .p (booksP hs), .p (belowsP hs), .und, .und, .und] m ⟨[], .und, .und, rfl, by simp [Shp.sizeL], rfl⟩
    rw [hm'] at e
    rw [List.append_nil] at hdone
    subst hdone
    have it := sit_tup (sOp pIx (sName 1) (sC (.int 3))) (δ := [.p hv, .p sp, .p (.int most), .p (.int 1), .und, .p (booksP hs), .p (belowsP hs), .und, .und, .und]) (m := m) (m' := m) (xs := B) (by simp [i3])
    rw [hB] at e
    have hBl : B.length ≤ 100 := by rw [← hB, List.length_map]; exact hlen
    have a2 := all_ok (fi := sItZ (sCons (sOp pIx (sName 1) (sC (.int 3))) (sCons (sSl (sOp pIx (sName 1) (sC (.int 3))) (sPart (sC (.int 1))) sNoPart) sNil))) (g := gT 2 (gsC (gN 8) (gsC (gN 9) gsN))) (fe := sOp pLe (sName 8) (sName 9)) (vs := [8, 9]) (δ := [.p hv, .p sp, .p (.int most), .p (.int (1 + (Shp.sizeL bs : Int))), e4, .p (booksP hs), .p (belowsP hs), e7, .und, .und]) (m := m) (xs := paird B (B.drop 1)) (by simp [i3, pSl, cut_1]) (by unfold paird; rw [List.length_zipWith]; omega) (fun y hy => by
      rw [hB] at asc
      obtain ⟨a, b, rfl, e⟩ := mem_paird asc y hy
      exact ⟨[.p hv, .p sp, .p (.int most), .p (.int (1 + (Shp.sizeL bs : Int))), e4, .p (booksP hs), .p (belowsP hs), e7, .p a, .p b], by simp, by simp [e]⟩)
    have fin : ((Shp.sizeL bs + 1 : Nat) : Int) = 1 + (Shp.sizeL bs : Int) := by omega
    rw [fin]
    obtain ⟨k, hk⟩ : ∃ k : Int, 1 + (Shp.sizeL bs : Int) = k := ⟨_, rfl⟩
    rw [hk] at e a2 ⊢
    rw [hB, hsp]
    have ibl : isBool (.bl h) = some true := rfl
    show fnS n_is_shape_of 3 (b_is_shape_of (sr_is_shape_of d)) _ _ = _
    unfold b_is_shape_of
    simp [-e_It, -e_Call, List.replicate_succ, n_is_shape_of, t0, i0, i1, i2, i3, eb, ew, ib, ba, sb, wh, m1, it, e, a2, ibl]
end DL

set_option Elab.async false
set_option linter.all false
set_option maxRecDepth 100000
set_option maxHeartbeats 2000000
/-! Plain part ng: has. -/
noncomputable section
namespace DL
open PySem PySem.Spec PyProof.Rows L2
theorem right_of {hs : List Rm} : ∀ (d : Nat) (sh : Shp), sh.dep ≤ d → sh.right hs → sh.size ≤ 100 → sh.of hs := by
  intro d
  induction d with
  | zero => intro sh hd; cases sh; rw [Shp.dep] at hd; omega
  | succ d ih =>
    intro sh hd hr hz
    obtain ⟨n, s, h, bs⟩ := sh
    rw [Shp.right] at hr
    obtain ⟨⟨x, hx, en, _, _, _⟩, _, hrs⟩ := hr
    rw [Shp.dep] at hd
    rw [Shp.size] at hz
    rw [Shp.of]
    refine ⟨by rw [← en]; exact List.mem_map_of_mem hx, by have := Shp.len_le bs; omega, ?_⟩
    have key : ∀ cs : List Shp, Shp.depL cs ≤ d → Shp.sizeL cs ≤ 100 → Shp.rightL hs cs → Shp.ofL hs cs := by
      intro cs
      induction cs with
      | nil => intro _ _ _; rw [Shp.ofL]; trivial
      | cons c cs ihc =>
        intro a b r
        rw [Shp.depL] at a
        rw [Shp.sizeL] at b
        rw [Shp.rightL] at r
        rw [Shp.ofL]
        exact ⟨ih c (by omega) r.1 (by omega), ihc (by omega) (by omega) r.2⟩
    exact key bs (by omega) (by omega) hrs
theorem lv_congr {hs : List Rm} {T U : Str → Nat → List Item} (e : ∀ n ∈ hs.map Rm.name, ∀ l i, i ∈ T n l ↔ i ∈ U n l) : ∀ (d : Nat) (sh : Shp), sh.dep ≤ d → sh.of hs → ∀ l, sh.lv T l = sh.lv U l := by
  intro d
  induction d with
  | zero => intro sh hd; cases sh; rw [Shp.dep] at hd; omega
  | succ d ih =>
    intro sh hd ho l
    obtain ⟨n, s, h, bs⟩ := sh
    rw [Shp.of] at ho
    rw [Shp.dep] at hd
    have eb : ∀ k, Shp.lvL T bs k = Shp.lvL U bs k := fun k => by
      rw [Shp.lvL_eq, Shp.lvL_eq]
      have : ∀ cs : List Shp, (∀ b ∈ cs, b ∈ bs) → (cs.all fun b => b.lv T k) = (cs.all fun b => b.lv U k) := by
        intro cs
        induction cs with
        | nil => intro _; rfl
        | cons c cs ihc =>
          intro hc
          rw [List.all_cons, List.all_cons, ihc fun b hb => hc b (List.mem_cons_of_mem _ hb)]
          have cm := hc c List.mem_cons_self
          rw [ih c (by have := Shp.depL_le cm; omega) (Shp.ofL_mem ho.2.2 c cm) k]
      exact this bs fun b hb => hb
    rw [Shp.lv, Shp.lv, Bool.eq_iff_iff, List.any_eq_true, List.any_eq_true]
    constructor
    · rintro ⟨i, hi, hv⟩
      exact ⟨i, (e n ho.1 l i).mp hi, by rw [← eb]; exact hv⟩
    · rintro ⟨i, hi, hv⟩
      exact ⟨i, (e n ho.1 l i).mpr hi, by rw [eb]; exact hv⟩
theorem sets_at {hs : List Rm} (h : HouseOk hs) {F : Rm → Qd} (hF : ∀ x ∈ hs, (F x).Of x.bk) : SetsAt hs (qT hs F) (.dK (nmK hs) (hs.map fun x => (F x).p)) := by
  have q : ∀ n ∈ hs.map Rm.name, ∃ x ∈ hs, x.name = n := fun n hn => List.mem_map.mp hn
  refine ⟨fun n hn => ?_, fun n hn l => ?_, fun n hn l i hi => ?_⟩
  · obtain ⟨x, hx, rfl⟩ := q n hn
    have r := roomOf_eq (names_nd h) x hx
    refine ⟨fun l => match l with
      | 0 => clD (F x).k0 (F x).t0
      | 1 => clD (F x).k1 (F x).t1
      | 2 => clD (F x).k2 (F x).t2
      | _ => clD (F x).k3 (F x).t3, ?_, ?_⟩
    · exact lookK_map Rm.name (fun x => (F x).p) (names_nd h) x hx
    · intro l hl m
      unfold qT
      rw [r]
      match l, hl with
      | 0, _ => rfl
      | 1, _ => rfl
      | 2, _ => rfl
      | 3, _ => rfl
      | _ + 4, z => omega
  · obtain ⟨x, hx, rfl⟩ := q n hn
    unfold qT
    rw [roomOf_eq (names_nd h) x hx]
    have z := qd_in (h.ok x hx).bk (h.ok x hx).bk.n2 (hF x hx)
    match l with
    | 0 => exact z ((F x).k0, (F x).t0) (by simp [Qd.l])
    | 1 => exact z ((F x).k1, (F x).t1) (by simp [Qd.l])
    | 2 => exact z ((F x).k2, (F x).t2) (by simp [Qd.l])
    | _ + 3 => exact z ((F x).k3, (F x).t3) (by simp [Qd.l])
  · obtain ⟨x, hx, rfl⟩ := q n hn
    have := (qT_ok h hF).inn x hx l i hi
    exact ⟨this.l0, this.l1⟩
theorem need_shape_ok {hs : List Rm} (h : HouseOk hs) {sh : Shp} (hr : sh.right hs) (hz : sh.size ≤ 12) (m : Mem) : s_need_shape [.p (.tup (hs.map Rm.p)), .p sh.p] m = .ok (.p .non) m := by
  have e : s_is_shape_of [.p (.tup (hs.map Rm.p)), .p sh.p, .p (.int 12)] m = .ok (.p (.int sh.size)) m := is_shape_ok h 16 sh hr (by have := sh.dep_le; omega) 12 (by omega) (by omega) m
  have z := sh.size_pos
  obtain ⟨k, hk⟩ : ∃ k : Int, (sh.size : Int) = k := ⟨_, rfl⟩
  have ne : pEq (.int k) (.int 0) = some (.bl false) := by
    have := en_eq k (0 : Int)
    rw [decide_eq_false (by omega)] at this
    exact this
  rw [hk] at e
  unfold s_need_shape b_need_shape
  simp [List.replicate_succ, n_need_shape, e, ne]
theorem has_ok {hs : List Rm} (h : HouseOk hs) {sh : Shp} (hr : sh.right hs) (hz : sh.size ≤ 12) (m : Mem) : s_has [.p (.tup (hs.map Rm.p)), .p sh.p] m = .ok (.p (.bl (sh.lv (levT hs) 3))) m := by
  obtain ⟨F, eF, hF⟩ := sets_in_ok h m
  have hd : sh.dep ≤ 16 := by have := sh.dep_le; omega
  have ho := right_of 16 sh hd hr (by omega)
  have el : s_levels_of [.p (.dK (nmK hs) (hs.map fun x => (F x).p)), .p sh.p] m = .ok (.p (lv4 (sh.lv (qT hs F)))) m := levels_ok (sets_at h hF) 16 sh ho hd m
  have e3 : sh.lv (qT hs F) 3 = sh.lv (levT hs) 3 := lv_congr (fun n hn l i => by
    obtain ⟨x, hx, rfl⟩ := List.mem_map.mp hn
    exact qT_mem h hF hx l i) 16 sh hd ho 3
  have ix : pIx (lv4 (sh.lv (qT hs F))) (.int 3) = some (.bl (sh.lv (levT hs) 3)) := by rw [← e3]; rfl
  have ns := need_shape_ok h hr hz m
  have hf := house_fine h m
  generalize P.tup (hs.map Rm.p) = hv at *
  generalize P.dK (nmK hs) (hs.map fun x => (F x).p) = SV at *
  generalize sh.p = sp at *
  unfold s_has b_has
  simp [List.replicate_succ, n_has, eF, el, ix, ns, hf]
end DL

set_option Elab.async false
set_option linter.all false
set_option maxRecDepth 100000
set_option maxHeartbeats 2000000
/-! Plain part nh: shapes as data: sorted, compared, shown. -/
noncomputable section
namespace DL
open PySem PySem.Spec PyProof.Rows L2
def shTy : Nat → Ty
  | 0 => .int
  | d + 1 => .tup [.str, .int, .bl, .seq (shTy d)]
theorem shTy_ord : ∀ d, (shTy d).ord = true
  | 0 => rfl
  | d + 1 => by simp [shTy, Ty.ord, Ty.ordL, shTy_ord d]
theorem shTy_dep : ∀ d, (shTy d).dep ≤ 2 * d
  | 0 => by simp [shTy, Ty.dep]
  | d + 1 => by
    have := shTy_dep d
    simp only [shTy, Ty.dep, Ty.depL]
    omega
theorem sh_has : ∀ (d : Nat) (sh : Shp), sh.dep ≤ d → (shTy d).has sh.p = true
  | 0, sh, h => by cases sh; rw [Shp.dep] at h; omega
  | d + 1, .mk n s hh bs, h => by
    rw [Shp.dep] at h
    rw [Shp.p, Shp.pL_eq]
    simp only [shTy, Ty.has, Ty.hasL, Bool.and_true, Bool.true_and, List.all_eq_true]
    intro x hx
    obtain ⟨b, hb, rfl⟩ := List.mem_map.mp hx
    exact sh_has d b (by have := Shp.depL_le hb; omega)
theorem sh_plain {d : Nat} {sh : Shp} (h : sh.dep ≤ d) : sh.p.plain = true := Ty.plain _ _ (sh_has d sh h)
theorem sh_dep {d : Nat} {sh : Shp} (h : sh.dep ≤ d) : sh.p.dep ≤ 2 * d := Nat.le_trans (Ty.dep_le _ _ (sh_has d sh h)) (shTy_dep d)
theorem sh_fit {d : Nat} {sh : Shp} (h : sh.dep ≤ d) (hd : d ≤ 50) : sh.p.fit = true := by
  unfold P.fit
  rw [sh_plain h, Bool.true_and]
  exact decide_eq_true (by have := sh_dep h; omega)
theorem sh_alike {d : Nat} {a b : Shp} (h : a.dep ≤ d) (k : b.dep ≤ d) : PySem.W.alike a.p.py b.p.py = true := Ty.alike _ _ _ (shTy_ord d) (sh_has d a h) (sh_has d b k)
def shLe (a b : Shp) : Bool := P.le a.p b.p
theorem sh_tupP (a : Shp) : ∃ xs, a.p = .tup xs := by cases a; rw [Shp.p]; exact ⟨_, rfl⟩
theorem sh_le {d : Nat} {a b : Shp} (h : a.dep ≤ d) (k : b.dep ≤ d) (hd : d ≤ 50) : pLe a.p b.p = some (.bl (shLe a b)) := by
  have c : a.p.fit = true ∧ b.p.fit = true ∧ PySem.W.alike a.p.py b.p.py = true := ⟨sh_fit h hd, sh_fit k hd, sh_alike h k⟩
  obtain ⟨xs, ex⟩ := sh_tupP a
  obtain ⟨ys, ey⟩ := sh_tupP b
  show _ = some (P.bl (!PySem.W.dataLt b.p.py a.p.py))
  rw [ex, ey] at c ⊢
  show (pLeD _ _).map P.bl = _
  unfold pLeD
  rw [if_pos c]
  rfl
def sortS (as : List Shp) : List Shp := as.mergeSort shLe
theorem sortS_perm (as : List Shp) : (sortS as).Perm as := List.mergeSort_perm _ _
theorem sortS_pairs (as : List Shp) : (sortS as).Pairwise (fun a b => shLe a b = true) := List.pairwise_mergeSort (le := shLe) (fun a b c h k => le_tot.trans a.p b.p c.p h k) (fun a b => by have := le_tot.total a.p b.p; simpa [shLe] using this) as
theorem sh_sorted {d : Nat} {as : List Shp} (h : ∀ a ∈ as, a.dep ≤ d) (hd : d ≤ 50) : gSorted [.lst (as.map Shp.p)] = some ((sortS as).map Shp.p) := by
  have e : gSorted [.lst (as.map Shp.p)] = some ((as.map Shp.p).mergeSort P.le) := by
    refine if_pos ⟨plainL_of fun x hx => ?_, ?_, .inl (List.all_eq_true.mpr fun x hx => ?_), List.all_eq_true.mpr fun x hx => ?_⟩
    · obtain ⟨a, ha, rfl⟩ := List.mem_map.mp hx
      exact sh_plain (h a ha)
    · unfold alikeL
      rw [List.all_eq_true]
      intro x hx
      rw [List.all_eq_true]
      intro y hy
      obtain ⟨a, ha, rfl⟩ := List.mem_map.mp hx
      obtain ⟨b, hb, rfl⟩ := List.mem_map.mp hy
      exact sh_alike (h a ha) (h b hb)
    · obtain ⟨a, ha, rfl⟩ := List.mem_map.mp hx
      cases a; rw [Shp.p]; rfl
    · obtain ⟨a, ha, rfl⟩ := List.mem_map.mp hx
      exact decide_eq_true (by have := sh_dep (h a ha); omega)
  rw [e]
  congr 1
  exact (List.map_mergeSort (r := shLe) (s := P.le) (f := Shp.p) (l := as) fun a _ b _ => rfl).symm
theorem sizeL_perm {as bs : List Shp} (h : as.Perm bs) : Shp.sizeL as = Shp.sizeL bs := by
  induction h with
  | nil => rfl
  | cons x _ ih => rw [Shp.sizeL, Shp.sizeL, ih]
  | swap x y l => rw [Shp.sizeL, Shp.sizeL, Shp.sizeL, Shp.sizeL]; omega
  | trans _ _ ih1 ih2 => rw [ih1, ih2]
theorem depL_le_of {d : Nat} : ∀ {as : List Shp}, (∀ a ∈ as, a.dep ≤ d) → Shp.depL as ≤ d
  | [], _ => by rw [Shp.depL]; omega
  | a :: as, h => by
    rw [Shp.depL]
    have := h a List.mem_cons_self
    have := depL_le_of fun b hb => h b (List.mem_cons_of_mem _ hb)
    omega
theorem rightL_of {hs : List Rm} : ∀ {as : List Shp}, (∀ a ∈ as, a.right hs) → Shp.rightL hs as
  | [], _ => by rw [Shp.rightL]; trivial
  | a :: as, h => by rw [Shp.rightL]; exact ⟨h a List.mem_cons_self, rightL_of fun b hb => h b (List.mem_cons_of_mem _ hb)⟩
/-- a right shape of right ones below it, sorted -/
theorem right_mk {hs : List Rm} {x : Rm} (hx : x ∈ hs) {s : Int} (s0 : 0 ≤ s) (s1 : s < x.bk.n) (h : Bool) {d : Nat} (hd : d ≤ 50) {as : List Shp} (hr : ∀ a ∈ as, a.right hs ∧ a.name ∈ x.below ∧ a.dep ≤ d) : (Shp.mk x.name s h (sortS as)).right hs := by
  have hr' : ∀ a ∈ sortS as, a.right hs ∧ a.name ∈ x.below ∧ a.dep ≤ d := fun a ha => hr a ((sortS_perm as).mem_iff.mp ha)
  rw [Shp.right]
  refine ⟨⟨x, hx, rfl, s0, s1, fun b hb => (hr' b hb).2.1⟩, ?_, rightL_of fun a ha => (hr' a ha).1⟩
  rw [List.pairwise_map]
  refine (sortS_pairs as).imp_of_mem fun {a b} ha hb q => ?_
  rw [sh_le (hr' a ha).2.2 (hr' b hb).2.2 hd, q]
end DL

set_option Elab.async false
set_option linter.all false
set_option maxRecDepth 100000
set_option maxHeartbeats 2000000
/-! Plain part ni: drawn shapes. -/
noncomputable section
namespace DL
open PySem PySem.Spec PyProof.Rows L2
/-- draws that a shape takes -/
def bud : Nat → Nat
  | 0 => 5
  | d + 1 => 10 + 2 * bud d
def most : Nat → Nat
  | 0 => 0
  | d + 1 => 1 + 2 * most d
theorem sizeL_le {B : Nat} : ∀ {as : List Shp}, (∀ a ∈ as, a.size ≤ B) → Shp.sizeL as ≤ as.length * B
  | [], _ => by rw [Shp.sizeL]; omega
  | a :: as, h => by
    rw [Shp.sizeL, List.length_cons, Nat.succ_mul]
    have := h a List.mem_cons_self
    have := sizeL_le fun b hb => h b (List.mem_cons_of_mem _ hb)
    omega
abbrev shR : FS := (sRet (sTup (sCons (sName 2) (sCons (sFn s__law_draw (sCons (sName 0) (sCons (sOp pIx (sOp pIx (sName 4) (sName 2)) (sC (.int 0))) sNil))) (sCons (sOp pEq (sFn s__law_draw (sCons (sName 0) (sCons (sC (.int 2)) sNil))) (sC (.int 0))) (sCons (sCall gTuple (sCons (sCallL gSorted (sCons (sName 6) sNil)) sNil)) sNil))))))
structure Lot (hs : List Rm) (x : Rm) (d : Nat) (lot : List Shp) : Prop where
  ok : ∀ a ∈ lot, a.right hs ∧ a.name ∈ x.below ∧ a.dep ≤ d ∧ a.size ≤ most d
  two : lot.length ≤ 2
theorem shape_tail {hs : List Rm} (h : HouseOk hs) {x : Rm} (hx : x ∈ hs) {d : Nat} (hd : d ≤ 40) {lot : List Shp} (L : Lot hs x d lot) {n : Nat} {t : Rnd} (ok : t.Ok (n + 2)) (d1 d3 d5 d7 : D) (r : Mem) :
    ∃ (sh : Shp) (t' : Rnd), shR [.ref 0, d1, .p (.str x.name), d3, .p (booksP hs), d5, .ref (r.length + 1), d7] (t.mo :: (r ++ [some (.lst (lot.map Shp.p))])) = .rt (.p sh.p) (t'.mo :: (r ++ [some (.lst (lot.map Shp.p))])) ∧ sh.right hs ∧ sh.name = x.name ∧ sh.dep ≤ d + 1 ∧ sh.size ≤ most (d + 1) ∧ t'.Ok n := by
  have n1 := (h.ok x hx).bk.n1
  have n2 := (h.ok x hx).bk.n2
  obtain ⟨M, hM⟩ : ∃ M, lot.map Shp.p = M := ⟨_, rfl⟩
  obtain ⟨s, t1, e1, s0, s1, ok1⟩ := draw_ok (n := n + 1) ok (top := x.bk.n) (by omega) (by omega) (r ++ [some (.lst M)])
  obtain ⟨v, t2, e2, v0, v1, ok2⟩ := draw_ok (n := n) ok1 (top := 2) (by omega) (by omega) (r ++ [some (.lst M)])
  have ba := book_at h hx
  have q : pEq (.int v) (.int 0) = some (.bl (decide (v = 0))) := en_eq v (0 : Int)
  have so := sh_sorted (d := d) (as := lot) (fun a ha => (L.ok a ha).2.2.1) (by omega)
  rw [hM] at so
  rw [hM]
  refine ⟨.mk x.name s (decide (v = 0)) (sortS lot), t2, ?_, right_mk hx s0 s1 _ (d := d) (by omega) fun a ha => ⟨(L.ok a ha).1, (L.ok a ha).2.1, (L.ok a ha).2.2.1⟩, rfl, ?_, ?_, ok2⟩
  · have hp : (Shp.mk x.name s (decide (v = 0)) (sortS lot)).p = .tup [.str x.name, .int s, .bl (decide (v = 0)), .tup ((sortS lot).map Shp.p)] := by rw [Shp.p, Shp.pL_eq]
    rw [hp]
    generalize (sortS lot).map Shp.p = SM at *
    generalize booksP hs = BV at *
    unfold shR
    simp [ba, e1, e2, q, so]
  · rw [Shp.dep]
    have := depL_le_of (d := d) (as := sortS lot) fun a ha => (L.ok a ((sortS_perm lot).mem_iff.mp ha)).2.2.1
    omega
  · rw [Shp.size, sizeL_perm (sortS_perm lot)]
    have a := sizeL_le (B := most d) (as := lot) fun a ha => (L.ok a ha).2.2.2
    have b : lot.length * most d ≤ 2 * most d := Nat.mul_le_mul_right _ L.two
    rw [most]
    omega
theorem some_okT {n : Nat} {t : Rnd} (h : t.Ok (n + 1)) {xs : List P} (h0 : 0 < xs.length) (h1 : xs.length < 1073741824) (r : Mem) :
    ∃ x ∈ xs, ∃ t' : Rnd, s__law_some [.ref 0, .p (.tup xs)] (t.mo :: r) = .ok (.p x) (t'.mo :: r) ∧ t'.Ok n := by
  obtain ⟨v, t', e, v0, v1, ok⟩ := draw_ok h (top := (xs.length : Int)) (by omega) (by omega) r
  obtain ⟨x, hx, ex⟩ := ix_lst v0 v1
  have ex' : pIx (.tup xs) (.int v) = some x := ex
  refine ⟨x, hx, t', ?_, ok⟩
  unfold s__law_some b__law_some
  simp [List.replicate_succ, n__law_some, e, ex']
theorem ne_names (as : List Str) (hl : as.length ≤ 100) : pNe (.tup (as.map P.str)) (.tup []) = some (.bl (!decide (as = []))) := by
  unfold pNe
  rw [if_pos]
  · cases as <;> simp [P.eqv, P.eqvL]
  · refine ⟨?_, by simp [P.plain, P.plainL]⟩
    unfold P.fit
    rw [P.plain, plainL_of fun y hy => by obtain ⟨z, _, rfl⟩ := List.mem_map.mp hy; rfl, Bool.true_and, P.dep]
    have : P.depL (as.map P.str) ≤ 0 := depL_of fun y hy => by obtain ⟨z, _, rfl⟩ := List.mem_map.mp hy; exact Nat.le_refl _
    exact decide_eq_true (by omega)
abbrev shB (R : List D → Mem → ER D) : FS := (sDrop (sMt (onLst fAppend) (sName 6) (sCons (sFn R (sCons (sName 0) (sCons (sName 1) (sCons (sFn s__law_some (sCons (sName 0) (sCons (sOp pIx (sName 5) (sName 2)) sNil))) (sCons (sOp pSub (sName 3) (sC (.int 1))) sNil))))) sNil)))
/-- what is to be shown of a shape so deep -/
def ShG (hs : List Rm) (R : List D → Mem → ER D) (d : Nat) : Prop := ∀ (n : Nat) (t : Rnd) (x : Rm) (r : Mem), x ∈ hs → t.Ok (n + bud d) →
    ∃ (sh : Shp) (t' : Rnd), R [.ref 0, .p (.tup (hs.map Rm.p)), .p (.str x.name), .p (.int ((d : Int) + 1))] (t.mo :: r) = .ok (.p sh.p) (t'.mo :: r) ∧ sh.right hs ∧ sh.name = x.name ∧ sh.dep ≤ d + 1 ∧ sh.size ≤ most (d + 1) ∧ t'.Ok n
theorem shape_lot {hs : List Rm} (h : HouseOk hs) {x : Rm} (hx : x ∈ hs) {d : Nat} {R : List D → Mem → ER D} (g : ShG hs R d) (hb : x.below ≠ []) {n : Nat} {k : Nat} (hk : k ≤ 2) {t : Rnd} (ok : t.Ok (n + 2 + k * (1 + bud d))) (d4 d7 : D) (r : Mem) :
    ∃ (lot : List Shp) (t' : Rnd) (e7 : D), forL (gN 7) (shB R) (fun _ => true) ((numsTo k).map P.int) [.ref 0, .p (.tup (hs.map Rm.p)), .p (.str x.name), .p (.int ((d : Int) + 2)), d4, .p (belowsP hs), .ref (r.length + 1), d7] (t.mo :: (r ++ [some (.lst [])])) = .nx [.ref 0, .p (.tup (hs.map Rm.p)), .p (.str x.name), .p (.int ((d : Int) + 2)), d4, .p (belowsP hs), .ref (r.length + 1), e7] (t'.mo :: (r ++ [some (.lst (lot.map Shp.p))])) ∧ Lot hs x (d + 1) lot ∧ t'.Ok (n + 2) := by
  have wa := below_at h hx
  have bln : x.below.length ≤ 3 := by have := (h.ok x hx).below.length_le; rw [List.length_map] at this; have := h.l2; omega
  obtain ⟨δ', μ', e, lot, t', e7, rfl, rfl, ok', L1, L2⟩ := for_ps (g := gN 7) (fb := shB R) P.int (fun rest δ μ => ∃ (lot : List Shp) (t' : Rnd) (e7 : D), δ = [.ref 0, .p (.tup (hs.map Rm.p)), .p (.str x.name), .p (.int ((d : Int) + 2)), d4, .p (belowsP hs), .ref (r.length + 1), e7] ∧ μ = t'.mo :: (r ++ [some (.lst (lot.map Shp.p))]) ∧ t'.Ok (n + 2 + rest.length * (1 + bud d)) ∧ (∀ a ∈ lot, a.right hs ∧ a.name ∈ x.below ∧ a.dep ≤ d + 1 ∧ a.size ≤ most (d + 1)) ∧ lot.length + rest.length ≤ 2) (fun z rest δ μ ⟨lot, t', e7, hδ, hμ, okt, L1, L2⟩ => by
    subst hδ hμ
    rw [List.length_cons, Nat.succ_mul] at okt
    rw [List.length_cons] at L2
    obtain ⟨M, hM⟩ : ∃ M, lot.map Shp.p = M := ⟨_, rfl⟩
    obtain ⟨y0, hy0, t2, e2, ok2⟩ := some_okT (n := n + 2 + rest.length * (1 + bud d) + bud d) (t := t') (okt.le (by omega)) (xs := x.below.map P.str) (by rw [List.length_map]; exact List.length_pos_iff.mpr hb) (by rw [List.length_map]; omega) (r ++ [some (.lst M)])
    obtain ⟨o, ho, rfl⟩ := List.mem_map.mp hy0
    obtain ⟨y, hy, rfl⟩ := below_of h hx ho
    obtain ⟨sh, t3, e3, r1, r2, r3, r4, ok3⟩ := g (n + 2 + rest.length * (1 + bud d)) t2 y (r ++ [some (.lst M)]) hy ok2
    obtain ⟨hv, ehv⟩ : ∃ hv, P.tup (hs.map Rm.p) = hv := ⟨_, rfl⟩
    rw [ehv] at e3 ⊢
    obtain ⟨z2, hz2⟩ : ∃ z2 : Int, (d : Int) + 2 = z2 := ⟨_, rfl⟩
    have su : pSub (.int z2) (.int 1) = some (.int ((d : Int) + 1)) := by
      show some (P.int (z2 - 1)) = _
      have : z2 - 1 = (d : Int) + 1 := by omega
      rw [this]
    obtain ⟨z1, hz1⟩ : ∃ z1 : Int, (d : Int) + 1 = z1 := ⟨_, rfl⟩
    rw [hz1] at su e3
    rw [hz2]
    obtain ⟨BL, hBL⟩ : ∃ BL, x.below.map P.str = BL := ⟨_, rfl⟩
    rw [hBL] at e2 wa
    have ap : onLst fAppend (.ref (r.length + 1)) [.p sh.p] (t3.mo :: (r ++ [some (.lst M)])) = some (.non, t3.mo :: (r ++ [some (.lst (M ++ [sh.p]))])) := by
      have h := app0 (xs := M) (y := sh.p) (by rw [← hM, List.length_map]; omega) (t3.mo :: r) []
      exact h
    have vw : view (.ref (r.length + 1)) (t'.mo :: (r ++ [some (.lst M)])) = some (.lst M) := by
      rw [view_ref]
      simp
    refine ⟨[.ref 0, .p hv, .p (.str x.name), .p (.int z2), d4, .p (belowsP hs), .ref (r.length + 1), .p (.int z)], [.ref 0, .p hv, .p (.str x.name), .p (.int z2), d4, .p (belowsP hs), .ref (r.length + 1), .p (.int z)], t3.mo :: (r ++ [some (.lst (M ++ [sh.p]))]), rfl, ?_, ⟨lot ++ [sh], t3, .p (.int z), by simp, by rw [List.map_append, hM]; rfl, ok3, fun a ha => ?_, by simp; omega⟩⟩
    · rw [hM]
      generalize belowsP hs = WV at *
      generalize sh.p = sp at *
      unfold shB
      simp [wa, e2, su, e3, ap, vw]
    · rcases List.mem_append.mp ha with ha | ha
      · exact L1 a ha
      · rw [List.mem_singleton.mp ha]
        exact ⟨r1, by rw [r2]; exact ho, r3, r4⟩) (numsTo k) [.ref 0, .p (.tup (hs.map Rm.p)), .p (.str x.name), .p (.int ((d : Int) + 2)), d4, .p (belowsP hs), .ref (r.length + 1), d7] (t.mo :: (r ++ [some (.lst [])])) ⟨[], t, d7, rfl, rfl, by rw [numsTo_len]; exact ok, by simp, by rw [numsTo_len]; simpa using hk⟩
  exact ⟨lot, t', e7, e, ⟨L1, by simpa using L2⟩, by simpa using ok'⟩
theorem lshape_ok {hs : List Rm} (h : HouseOk hs) : ∀ (d D : Nat), d ≤ 38 → d < D → ShG hs (sr__law_shape D) d := by
  intro d
  induction d with
  | zero =>
    intro D _ hD n t x r hx ok
    obtain ⟨D, rfl⟩ : ∃ k, D = k + 1 := ⟨D - 1, by omega⟩
    rw [bud] at ok
    have eb := lbooks_ok h (t.mo :: r)
    have ew := lbelows_ok h (t.mo :: r)
    obtain ⟨sh, t', e, r1, r2, r3, r4, ok'⟩ := shape_tail h hx (d := 0) (by omega) (lot := []) ⟨by simp, by simp⟩ (n := n) (t := t) (ok.le (by omega)) (.p (.tup (hs.map Rm.p))) (.p (.int 1)) (.p (belowsP hs)) .und r
    refine ⟨sh, t', ?_, r1, r2, r3, r4, ok'⟩
    have g1 : ((0 : Nat) : Int) + 1 = 1 := rfl
    rw [g1]
    have e' : shR [.ref 0, .p (.tup (hs.map Rm.p)), .p (.str x.name), .p (.int 1), .p (booksP hs), .p (belowsP hs), .ref (r.length + 1), .und] (t.mo :: (r ++ [some (.lst [])])) = .rt (.p sh.p) (t'.mo :: (r ++ [some (.lst [])])) := e
    generalize P.tup (hs.map Rm.p) = hv at *
    generalize belowsP hs = WV at *
    generalize booksP hs = BV at *
    obtain ⟨q, hq⟩ : ∃ q, shR = q := ⟨_, rfl⟩
    rw [hq] at e'
    show fnS n__law_shape 4 (b__law_shape (sr__law_shape D)) _ _ = _
    unfold b__law_shape
    simp only [shR] at hq
    rw [hq]
    simp [List.replicate_succ, n__law_shape, eb, ew, e']
  | succ d ih =>
    intro D hd hD n t x r hx ok
    obtain ⟨D, rfl⟩ : ∃ k, D = k + 1 := ⟨D - 1, by omega⟩
    rw [bud] at ok
    have eb := lbooks_ok h (t.mo :: r)
    have ew := lbelows_ok h (t.mo :: r)
    have wa := below_at h hx
    have bln : x.below.length ≤ 3 := by have := (h.ok x hx).below.length_le; rw [List.length_map] at this; have := h.l2; omega
    have ne := ne_names x.below (by omega)
    have g1 : ((d + 1 : Nat) : Int) + 1 = (d : Int) + 2 := by omega
    rw [g1]
    have gt : pGt (.int ((d : Int) + 2)) (.int 1) = some (.bl true) := by
      show some (P.bl (decide _)) = _
      rw [decide_eq_true (by omega)]
    by_cases hb : x.below = []
    · obtain ⟨sh, t', e, r1, r2, r3, r4, ok'⟩ := shape_tail h hx (d := d + 1) (by omega) (lot := []) ⟨by simp, by simp⟩ (n := n) (t := t) (ok.le (by omega)) (.p (.tup (hs.map Rm.p))) (.p (.int ((d : Int) + 2))) (.p (belowsP hs)) .und r
      refine ⟨sh, t', ?_, r1, r2, r3, r4, ok'⟩
      have e' : shR [.ref 0, .p (.tup (hs.map Rm.p)), .p (.str x.name), .p (.int ((d : Int) + 2)), .p (booksP hs), .p (belowsP hs), .ref (r.length + 1), .und] (t.mo :: (r ++ [some (.lst [])])) = .rt (.p sh.p) (t'.mo :: (r ++ [some (.lst [])])) := e
      rw [decide_eq_true hb] at ne
      generalize x.below.map P.str = BL at *
      generalize ((d : Int) + 2) = z2 at *
      generalize P.tup (hs.map Rm.p) = hv at *
      generalize belowsP hs = WV at *
      generalize booksP hs = BV at *
      obtain ⟨q, hq⟩ : ∃ q, shR = q := ⟨_, rfl⟩
      rw [hq] at e'
      show fnS n__law_shape 4 (b__law_shape (sr__law_shape D)) _ _ = _
      unfold b__law_shape
      simp only [shR] at hq
      rw [hq]
      simp [List.replicate_succ, n__law_shape, eb, ew, e', wa, ne, gt]
    · obtain ⟨v, t1, e1, v0, v1, ok1⟩ := draw_ok (n := n + 2 + 2 * (1 + bud d)) (t := t) (ok.le (by omega)) (top := 3) (by omega) (by omega) (r ++ [some (.lst [])])
      obtain ⟨k, rfl⟩ : ∃ k : Nat, v = (k : Int) := ⟨v.toNat, by omega⟩
      have hk : k ≤ 2 := by omega
      have km : k * (1 + bud d) ≤ 2 * (1 + bud d) := Nat.mul_le_mul_right _ hk
      obtain ⟨lot, t2, e7, e2, L, ok2⟩ := shape_lot h hx (ih D (by omega) (by omega)) hb hk (n := n) (t := t1) (ok1.le (by omega)) (.p (booksP hs)) .und r
      obtain ⟨sh, t', e3, r1, r2, r3, r4, ok'⟩ := shape_tail h hx (d := d + 1) (by omega) L (n := n) (t := t2) ok2 (.p (.tup (hs.map Rm.p))) (.p (.int ((d : Int) + 2))) (.p (belowsP hs)) e7 r
      refine ⟨sh, t', ?_, r1, r2, r3, r4, ok'⟩
      have i1 : sIt1 (sCons (sFn s__law_draw (sCons (sName 0) (sCons (sC (.int 3)) sNil))) sNil) [.ref 0, .p (.tup (hs.map Rm.p)), .p (.str x.name), .p (.int ((d : Int) + 2)), .p (booksP hs), .p (belowsP hs), .ref (r.length + 1), .und] (t.mo :: (r ++ [some (.lst [])])) = .ok ⟨(numsTo k).map P.int, fun _ => true⟩ (t1.mo :: (r ++ [some (.lst [])])) := it1_nat (x := (k : Int)) (by simp [e1]) rfl (by omega)
      rw [decide_eq_false hb] at ne
      generalize x.below.map P.str = BL at *
      generalize ((d : Int) + 2) = z2 at *
      generalize P.tup (hs.map Rm.p) = hv at *
      generalize belowsP hs = WV at *
      generalize booksP hs = BV at *
      generalize (numsTo k).map P.int = NK at *
      generalize lot.map Shp.p = LM at *
      obtain ⟨q, hq⟩ : ∃ q, shR = q := ⟨_, rfl⟩
      obtain ⟨b, hb2⟩ : ∃ b, shB (sr__law_shape D) = b := ⟨_, rfl⟩
      rw [hq] at e3
      rw [hb2] at e2
      show fnS n__law_shape 4 (b__law_shape (sr__law_shape D)) _ _ = _
      unfold b__law_shape
      simp only [shR] at hq
      simp only [shB] at hb2
      rw [hq, hb2]
      simp [-e_It1, List.replicate_succ, n__law_shape, eb, ew, i1, e2, e3, wa, ne, gt]
end DL

set_option Elab.async false
set_option linter.all false
set_option maxRecDepth 100000
set_option maxHeartbeats 2000000
/-! Plain part nj: sizes; houses with other edges. -/
noncomputable section
namespace DL
open PySem PySem.Spec PyProof.Rows L2
theorem sum_ok : ∀ is : List Int, gSum [.lst (is.map P.int)] = some (.int is.sum) := fun is => by
  have e : ∀ is : List Int, numsP (is.map P.int) = some is := by
    intro is
    induction is with
    | nil => rfl
    | cons i is ih => rw [List.map_cons, numsP, ih]; rfl
  show (numsP _).map _ = _
  rw [e]
  rfl
theorem size_ok : ∀ (D : Nat) (sh : Shp), sh.dep ≤ D → sh.size ≤ 100 → ∀ m, sr__law_size D [.p sh.p] m = .ok (.p (.int sh.size)) m := by
  intro D
  induction D with
  | zero => intro sh hd; cases sh; rw [Shp.dep] at hd; omega
  | succ D ih =>
    intro sh hd hz m
    obtain ⟨n, s, h, bs⟩ := sh
    rw [Shp.dep] at hd
    rw [Shp.size] at hz ⊢
    have hlen := Shp.len_le bs
    have hp : (Shp.mk n s h bs).p = .tup [.str n, .int s, .bl h, .tup (bs.map Shp.p)] := by rw [Shp.p, Shp.pL_eq]
    rw [hp]
    have sz : ∀ b ∈ bs, b.size ≤ Shp.sizeL bs := by
      have : ∀ cs : List Shp, ∀ b ∈ cs, b.size ≤ Shp.sizeL cs := by
        intro cs
        induction cs with
        | nil => intro b hb; cases hb
        | cons c cs ihc =>
          intro b hb
          rw [Shp.sizeL]
          rcases List.mem_cons.mp hb with hb | hb
          · subst hb; omega
          · have := ihc b hb; omega
      exact this bs
    have c := compL_map (g := gN 1) (ft := sYes) (fe := sFn (sr__law_size D) (sCons (sName 1) sNil)) (ok := fun _ => true) (δ := [.p (.tup [.str n, .int s, .bl h, .tup (bs.map Shp.p)]), .und]) (m := m) Shp.p P.int (fun _ => true) (fun b => (b.size : Int)) rfl (xs := bs) fun b hb => ⟨[.p (.tup [.str n, .int s, .bl h, .tup (bs.map Shp.p)]), .p b.p], by simp, by simp, fun _ => by
      have := ih b (by have := Shp.depL_le hb; omega) (by have := sz b hb; omega) m
      simp [this]⟩
    have f : ((bs.filter fun _ => true).map fun b => (b.size : Int)) = bs.map fun b => (b.size : Int) := by rw [List.filter_eq_self.mpr (by simp)]
    rw [f] at c
    have mk := mkL_ok (xs := (bs.map fun b => (b.size : Int)).map P.int) (m := m) (by rw [List.length_map, List.length_map]; omega)
    have sm := sum_ok (bs.map fun b => (b.size : Int))
    have e : (bs.map fun b => (b.size : Int)).sum = (Shp.sizeL bs : Int) := by
      have : ∀ cs : List Shp, (cs.map fun b => (b.size : Int)).sum = (Shp.sizeL cs : Int) := by
        intro cs
        induction cs with
        | nil => rw [Shp.sizeL]; rfl
        | cons c cs ihc => rw [List.map_cons, List.sum_cons, ihc, Shp.sizeL]; omega
      exact this bs
    rw [e] at sm
    have fin : ((Shp.sizeL bs + 1 : Nat) : Int) = 1 + (Shp.sizeL bs : Int) := by omega
    rw [fin]
    generalize (Shp.sizeL bs : Int) = K at *
    have ad : pAdd (.int 1) (.int K) = some (.int (1 + K)) := rfl
    generalize (bs.map fun b => (b.size : Int)).map P.int = Z at *
    generalize bs.map Shp.p = B at *
    show fnS n__law_size 1 (b__law_size (sr__law_size D)) _ _ = _
    unfold b__law_size
    simp [List.replicate_succ, n__law_size, c, mk, sm, ad]
/-- a house with other edges of a kind -/
def withE (hs : List Rm) (k : Nat) (es : List Edge) : List Rm := match hs[k]? with
  | some x => hs.set k ⟨x.name, ⟨x.bk.n, x.bk.up, x.bk.deaf, es⟩, x.below⟩
  | none => hs
theorem withE_at {hs : List Rm} {k : Nat} {es : List Edge} (hk : k < hs.length) : withE hs k es = hs.set k ⟨hs[k].name, ⟨hs[k].bk.n, hs[k].bk.up, hs[k].bk.deaf, es⟩, hs[k].below⟩ := by
  unfold withE
  rw [List.getElem?_eq_getElem hk]
theorem withE_len {hs : List Rm} {k : Nat} {es : List Edge} (hk : k < hs.length) : (withE hs k es).length = hs.length := by rw [withE_at hk, List.length_set]
theorem withE_names {hs : List Rm} {k : Nat} {es : List Edge} (hk : k < hs.length) : (withE hs k es).map Rm.name = hs.map Rm.name := by
  rw [withE_at hk, List.map_set]
  have : (hs.map Rm.name)[k]'(by simpa using hk) = hs[k].name := by simp
  rw [← this]
  exact List.set_getElem_self _
theorem withE_ok {hs : List Rm} (h : HouseOk hs) {k : Nat} {es : List Edge} (hk : k < hs.length) (asc : es.Pairwise Edge.lt) (hi : ∀ e ∈ es, e.Ok hs[k].bk.n) (hl : es.length ≤ 24) : HouseOk (withE hs k es) := by
  refine ⟨by rw [withE_names hk]; exact h.asc, by rw [withE_names hk]; exact h.mem, by rw [withE_len hk]; exact h.l1, by rw [withE_len hk]; exact h.l2, fun x hx => ?_⟩
  rw [withE_names hk]
  rw [withE_at hk] at hx
  rcases List.mem_or_eq_of_mem_set hx with hx | rfl
  · exact h.ok x hx
  · have o := h.ok _ (List.getElem_mem hk)
    exact ⟨⟨o.bk.n1, o.bk.n2, o.bk.up, o.bk.upI, o.bk.deaf, o.bk.deafI, asc, hi⟩, hl, o.below⟩
theorem with_ok {hs : List Rm} (h : HouseOk hs) {k : Nat} (hk : k < hs.length) (es : List Edge) (m : Mem) : s__law_with [.p (.tup (hs.map Rm.p)), .p (.int k), .p (.lst (es.map Edge.p))] m = .ok (.p (.tup ((withE hs k (sortZ es)).map Rm.p))) m := by
  have l2 := h.l2
  obtain ⟨x, hx⟩ : ∃ x, hs[k] = x := ⟨_, rfl⟩
  have ix := ix_tupM Rm.p hk
  rw [hx] at ix
  have so : gSorted [.lst (es.map Edge.p)] = some ((sortZ es).map Edge.p) := en_sorted edge_ord (.inl fun _ => rfl) _
  have s1 : pSl (.tup (hs.map Rm.p)) none (some (k : Int)) = some (.tup ((hs.take k).map Rm.p)) := by
    show some (P.tup (cut _ _ _)) = _
    rw [cut_to, List.map_take]
  have s2 : pSl (.tup (hs.map Rm.p)) (some ((k : Int) + 1)) none = some (.tup ((hs.drop (k + 1)).map Rm.p)) := by
    show some (P.tup (cut _ _ _)) = _
    have : ((k : Int) + 1) = ((k + 1 : Nat) : Int) := by omega
    rw [this, cut_from _ _ (by rw [List.length_map]; omega), List.map_drop]
  have fin : (withE hs k (sortZ es)).map Rm.p = (hs.take k).map Rm.p ++ (P.tup [.str x.name, .tup [.tup [.int x.bk.n, numsT x.bk.up, numsT x.bk.deaf, .tup ((sortZ es).map Edge.p)], .tup (x.below.map P.str)]] :: (hs.drop (k + 1)).map Rm.p) := by
    rw [withE_at hk, List.set_eq_take_append_cons_drop, if_pos hk, List.map_append, List.map_cons, hx]
    rfl
  have lt : ((hs.take k).map Rm.p).length ≤ 3 := by rw [List.length_map, List.length_take]; omega
  have ld : ((hs.drop (k + 1)).map Rm.p).length ≤ 3 := by rw [List.length_map, List.length_drop]; omega
  rw [fin]
  have xp : x.p = .tup [.str x.name, .tup [.tup [.int x.bk.n, numsT x.bk.up, numsT x.bk.deaf, .tup (x.bk.es.map Edge.p)], .tup (x.below.map P.str)]] := rfl
  generalize (hs.take k).map Rm.p = T at *
  generalize (hs.drop (k + 1)).map Rm.p = Dr at *
  have a1 : ∀ y, pAdd (.tup T) (.tup [y]) = some (.tup (T ++ [y])) := fun y => cat_tup T [y] (by simp; omega)
  have a2 : ∀ y, pAdd (.tup (T ++ [y])) (.tup Dr) = some (.tup (T ++ [y] ++ Dr)) := fun y => cat_tup (T ++ [y]) Dr (by simp; omega)
  have c3 : pAdd (.int k) (.int 1) = some (.int ((k : Int) + 1)) := rfl
  generalize (sortZ es).map Edge.p = G at *
  generalize es.map Edge.p = F at *
  generalize x.bk.es.map Edge.p = E at *
  generalize P.tup (hs.map Rm.p) = hv at *
  unfold s__law_with b__law_with
  simp [-cat_tup, List.replicate_succ, n__law_with, ix, xp, so, s1, s2, c3, a1, a2]
end DL

set_option Elab.async false
set_option linter.all false
set_option maxRecDepth 100000
set_option maxHeartbeats 2000000
/-! Plain part nk: tables within tables. -/
noncomputable section
namespace DL
open PySem PySem.Spec PyProof.Rows L2
abbrev trK (S : List Item) : P := .dT (S.map Item.p) (S.map fun _ => .bl true)
theorem in_trK (j : Item) (S : List Item) : pIn true j.p (trK S) = some (.bl (!decide (j ∈ S))) := by
  have := en_inD item_key true j (item_tup j) S (S.map fun _ => .bl true) (by simp)
  rw [Bool.true_xor] at this
  exact this
abbrev wiB : FS := (sSeq (sAsgN (sFz (sCallD (gDict true) (sCons (sLc (sIt (sOp pIx (sOp pIx (sOp pIx (sName 1) (sName 2)) (sC (.int 1))) (sName 3))) (gN 5) sYes (sTup (sCons (sName 5) (sCons (sC (.bl true)) sNil))) [5]) sNil))) 4)
    (sIfS (sB (sOp pNe (sLc (sIt (sOp pIx (sOp pIx (sOp pIx (sName 0) (sName 2)) (sC (.int 1))) (sName 3))) (gN 5) (sB (sOp (pIn true) (sName 5) (sName 4))) (sName 5) [5]) (sLst sNil))) (sRet (sC (.bl false))) sNx))
theorem wi_turn {A B : P} {k : Int} {l : Nat} {ra rb sa sb : P} {S U : List Item} (ha : pIx A (.int k) = some ra) (hb : pIx B (.int k) = some rb) (ha1 : pIx ra (.int 1) = some sa) (hb1 : pIx rb (.int 1) = some sb) (ha2 : pIx sa (.int l) = some (itsP S)) (hb2 : pIx sb (.int l) = some (itsP U))
    (nd : U.Nodup) (hl : U.length ≤ 96) (sub : ∀ i ∈ S, i ∈ U) (d4 : D) (m : Mem) : wiB [.p A, .p B, .p (.int k), .p (.int l), d4, .und] m = .nx [.p A, .p B, .p (.int k), .p (.int l), .p (trK U), .und] (m ++ [none]) := by
  have c1 := compL_map (g := gN 5) (ft := sYes) (fe := sTup (sCons (sName 5) (sCons (sC (.bl true)) sNil))) (ok := fun _ => true) (δ := [.p A, .p B, .p (.int k), .p (.int l), d4, .und]) (m := m) Item.p (fun i => P.tup [i.p, .bl true]) (fun _ => true) id rfl (xs := U) fun i _ => ⟨[.p A, .p B, .p (.int k), .p (.int l), d4, .p i.p], by simp, by simp, fun _ => by simp⟩
  have f1 : ((U.filter fun _ => true).map id) = U := by simp
  rw [f1] at c1
  have m1 := mkL_ok (xs := U.map fun i => P.tup [i.p, .bl true]) (m := m) (by rw [List.length_map]; omega)
  have gd : gDict true [.lst (U.map fun i => P.tup [i.p, .bl true])] = some (.dT (U.map Item.p) (U.map fun _ => .bl true)) := en_dict item_key item_kT (fun _ => .bl true) nd (by omega)
  have c2 := compL_map (g := gN 5) (ft := sB (sOp (pIn true) (sName 5) (sName 4))) (fe := sName 5) (ok := fun _ => true) (δ := [.p A, .p B, .p (.int k), .p (.int l), .p (trK U), .und]) (m := m ++ [none]) Item.p Item.p (fun _ => false) id rfl (xs := S) fun i hi => ⟨[.p A, .p B, .p (.int k), .p (.int l), .p (trK U), .p i.p], by simp, by simp [in_trK, sub i hi], fun q => by cases q⟩
  have f2 : (((S.filter fun _ => false).map id).map Item.p) = [] := by simp
  rw [f2] at c2
  have m2 : mkL [] (m ++ [none]) = .ok (.p (.lst [])) (m ++ [none]) := mkL_ok (by simp)
  have ne : pNe (.lst []) (.lst []) = some (.bl false) := by decide +kernel
  have hS : itsP S = .tup (S.map Item.p) := rfl
  have hU : itsP U = .tup (U.map Item.p) := rfl
  rw [hS] at ha2
  rw [hU] at hb2
  obtain ⟨o, ho⟩ : ∃ o : MO, (MO.dT (U.map Item.p) (U.map fun _ => .bl true)) = o := ⟨_, rfl⟩
  have fz : fzD (.ref m.length) (m ++ [some o]) = .ok (.p (trK U)) (m ++ [none]) := by
    unfold fzD
    have g : (m ++ [some o])[m.length]? = some (some o) := by simp
    dsimp only
    rw [g, ← ho]
    simp [fzO]
  rw [ho] at gd
  generalize (U.map fun i => P.tup [i.p, .bl true]) = L1 at *
  generalize S.map Item.p = SP at *
  generalize U.map Item.p = UP at *
  generalize trK U = TK at *
  unfold wiB
  simp [ha, hb, ha1, hb1, ha2, hb2, c1, m1, gd, fz, c2, m2, ne]
theorem within_ok {as bs : List Rm} (ha : HouseOk as) (hb : HouseOk bs) (hl : as.length = bs.length) (sub : ∀ (k : Nat) (h1 : k < as.length) (h2 : k < bs.length) (l : Nat), ∀ i ∈ lev as[k].bk l, i ∈ lev bs[k].bk l) (m : Mem) : s__law_is_within [.p (tabP as), .p (tabP bs)] m = .ok (.p (.bl true)) m := by
  have l2 := ha.l2
  have it1 : ∀ δ m, sIt1 (sCons (sC (.int 4)) sNil) δ m = .ok ⟨(numsTo 4).map P.int, fun _ => true⟩ m := fun δ m => it1_nat (x := 4) (by simp) (by decide) (by decide)
  have inner : ∀ (k : Nat) (h1 : k < as.length) (h2 : k < bs.length) (d3 d4 : D) (μ : Mem), ∃ (e3 e4 : D) (ms : Mem), forL (gN 3) wiB (fun _ => true) ((numsTo 4).map P.int) [.p (tabP as), .p (tabP bs), .p (.int k), d3, d4, .und] μ = .nx [.p (tabP as), .p (tabP bs), .p (.int k), e3, e4, .und] (μ ++ ms) := by
    intro k h1 h2 d3 d4 μ
    obtain ⟨δ', μ', e, e3, e4, ms, rfl, rfl, _⟩ := for_ps (g := gN 3) (fb := wiB) P.int (fun rest δ μ' => ∃ (d3 d4 : D) (ms : Mem), δ = [.p (tabP as), .p (tabP bs), .p (.int k), d3, d4, .und] ∧ μ' = μ ++ ms ∧ ∀ z ∈ rest, z ∈ numsTo 4) (fun z rest δ μ' ⟨d3, d4, ms, hδ, hμ, hr⟩ => by
      subst hδ hμ
      obtain ⟨l, hl4, rfl⟩ := nums4 (hr z List.mem_cons_self)
      have oa := ha.ok _ (List.getElem_mem h1)
      have ob := hb.ok _ (List.getElem_mem h2)
      have so := set4_ok ob.bk ob.bk.n2 ob.few _ (lev_mem bs[k].bk l)
      have nd : (lev bs[k].bk l).Nodup := so.asc.imp fun {a b} h e => by
        subst e
        have t := eLe_lt a a
        rw [h] at t
        have : eLe a a = true := by have := eLe_total a a; simpa using this
        rw [this] at t
        cases t
      have w := wi_turn (A := tabP as) (B := tabP bs) (k := (k : Int)) (l := l) (ix_tupM rowP h1) (ix_tupM rowP h2) rfl rfl (lev_at as[k].bk l hl4) (lev_at bs[k].bk l hl4) nd so.few (sub k h1 h2 l) d4 (μ ++ ms)
      exact ⟨[.p (tabP as), .p (tabP bs), .p (.int k), .p (.int l), d4, .und], _, _, rfl, w, ⟨_, _, ms ++ [none], rfl, by simp, fun z hz => hr z (List.mem_cons_of_mem _ hz)⟩⟩) (numsTo 4) [.p (tabP as), .p (tabP bs), .p (.int k), d3, d4, .und] μ ⟨d3, d4, [], rfl, by simp, fun z h => h⟩
    exact ⟨e3, e4, ms, e⟩
  obtain ⟨δ', μ', e, e2, e3, e4, ms, rfl, rfl, _⟩ := for_ps (g := gN 2) (fb := sFor (sIt1 (sCons (sC (.int 4)) sNil)) (gN 3) wiB) P.int (fun rest δ μ' => ∃ (d2 d3 d4 : D) (ms : Mem), δ = [.p (tabP as), .p (tabP bs), d2, d3, d4, .und] ∧ μ' = m ++ ms ∧ ∀ z ∈ rest, ∃ k : Nat, k < as.length ∧ z = k) (fun z rest δ μ' ⟨d2, d3, d4, ms, hδ, hμ, hr⟩ => by
    subst hδ hμ
    obtain ⟨k, hk, rfl⟩ := hr z List.mem_cons_self
    obtain ⟨e3, e4, ms2, e⟩ := inner k hk (by omega) d3 d4 (m ++ ms)
    refine ⟨[.p (tabP as), .p (tabP bs), .p (.int k), d3, d4, .und], [.p (tabP as), .p (tabP bs), .p (.int k), e3, e4, .und], m ++ ms ++ ms2, rfl, ?_, ⟨_, _, _, ms ++ ms2, rfl, by simp, fun z hz => hr z (List.mem_cons_of_mem _ hz)⟩⟩
    rw [e_For, it1]
    exact e) (numsTo as.length) [.p (tabP as), .p (tabP bs), .und, .und, .und, .und] m ⟨.und, .und, .und, [], rfl, by simp, fun z hz => by
      unfold numsTo at hz
      obtain ⟨i, hi, rfl⟩ := List.mem_map.mp hz
      exact ⟨i, by simpa using hi, rfl⟩⟩
  have gl : gLen [tabP as] = some (.int as.length) := by rw [tabP_eq]; simp
  have i1 : sIt1 (sCons (sCall gLen (sCons (sName 0) sNil)) sNil) [.p (tabP as), .p (tabP bs), .und, .und, .und, .und] m = .ok ⟨(numsTo as.length).map P.int, fun _ => true⟩ m := it1_nat (x := (as.length : Int)) (by simp [gl]) rfl (by omega)
  generalize tabP as = TA at *
  generalize tabP bs = TB at *
  generalize (numsTo as.length).map P.int = NK at *
  obtain ⟨w, hw⟩ : ∃ w, wiB = w := ⟨_, rfl⟩
  rw [hw] at e
  obtain ⟨b, hb2⟩ : ∃ b, sFor (sIt1 (sCons (sC (.int 4)) sNil)) (gN 3) w = b := ⟨_, rfl⟩
  rw [hb2] at e
  unfold s__law_is_within b__law_is_within
  simp only [wiB] at hw
  rw [hw, hb2]
  simp [-e_It1, List.replicate_succ, n__law_is_within, i1, e]
end DL

set_option Elab.async false
set_option linter.all false
set_option maxRecDepth 100000
set_option maxHeartbeats 4000000
/-! The law k33, plainly: more edges, the same table. -/
noncomputable section
namespace DL
open PySem PySem.Spec PyProof.Rows L2
theorem cl_ext {bk bk' : Book} {over over' : Bool} {bs cs : List Item} (h : ∀ i, Reach bk over bs i ↔ Reach bk' over' cs i) : cl bk over bs = cl bk' over' cs := by
  have e : IsEn bk over bs = IsEn bk' over' cs := by
    funext ks
    exact propext ⟨fun q => ⟨q.nd, fun i => (q.mem i).trans (h i)⟩, fun q => ⟨q.nd, fun i => (q.mem i).trans (h i).symm⟩⟩
  unfold cl
  rw [e]
def selfE (s : Int) : Edge := ⟨s, [], "go", s⟩
/-- other edges that lead nowhere else -/
structure Still (bk bk' : Book) : Prop where
  big : Bigger bk bk'
  es : ∀ e ∈ bk'.es, e ∈ bk.es ∨ ∃ s, e = selfE s
def UpOk (bk : Book) (i : Item) : Prop := i.s ∈ bk.up → i.l = 3
theorem self_led {bk : Book} {i : Item} (u : UpOk bk i) : ledE bk i (selfE i.s) = i := by
  obtain ⟨s, h, r, l⟩ := i
  have n1 : (("go" : Str) = "hold") = False := by decide
  have n2 : (("go" : Str) = "give") = False := by decide
  have n3 : (("go" : Str) = "hush") = False := by decide
  unfold ledE ledL selfE
  by_cases hs : s ∈ bk.up
  · have : l = 3 := u hs
    simp [n1, n2, n3, hs, this]
  · simp [n1, n2, n3, hs]
theorem still_next {bk bk' : Book} (st : Still bk bk') {over : Bool} {i j : Item} {e : Option Edge} (u : UpOk bk i) (h : (e, j) ∈ nexts bk' over i) : (e, j) ∈ nexts bk over i ∨ j = i := by
  unfold nexts at h ⊢
  rcases List.mem_append.mp h with h | h
  · obtain ⟨x, hx, ex⟩ := List.mem_map.mp h
    have hx' := List.mem_filter.mp hx
    have el : ledE bk' i x = ledE bk i x := by unfold ledE ledL; rw [st.big.up]
    cases ex
    rcases st.es x hx'.1 with hm | ⟨s, rfl⟩
    · exact .inl (List.mem_append_left _ (List.mem_map.mpr ⟨x, List.mem_filter.mpr ⟨hm, hx'.2⟩, by rw [el]⟩))
    · right
      have hb : s = i.s := by
        have := hx'.2
        unfold canE selfE at this
        simp only [Bool.and_eq_true, decide_eq_true_eq] at this
        exact this.1.1.1
      rw [el, hb]
      exact self_led u
  · exact .inl (List.mem_append_right _ (by rw [← st.big.deaf]; exact h))
theorem next_up {bk : Book} {over : Bool} {i j : Item} {e : Option Edge} (u : UpOk bk i) (h : (e, j) ∈ nexts bk over i) : UpOk bk j := by
  unfold nexts at h
  rcases List.mem_append.mp h with h | h
  · obtain ⟨x, hx, ex⟩ := List.mem_map.mp h
    cases ex
    intro hm
    have hm' : x.e ∈ bk.up := hm
    show ledL bk i x = 3
    unfold ledL
    rw [if_pos hm']
  · split at h
    · cases h
    · cases List.mem_singleton.mp h
      exact u
theorem reach_up {bk : Book} {over : Bool} {bs : List Item} (hb : ∀ i ∈ bs, UpOk bk i) {i : Item} (r : Reach bk over bs i) : UpOk bk i := by
  induction r with
  | base h => exact hb _ h
  | step _ n ih => exact next_up ih n
theorem still_reach {bk bk' : Book} (st : Still bk bk') {over : Bool} {bs : List Item} (hb : ∀ i ∈ bs, UpOk bk i) {i : Item} : Reach bk over bs i ↔ Reach bk' over bs i := by
  constructor
  · exact fun r => r.up (nexts_big st.big) fun j hj => .base hj
  · intro r
    induction r with
    | base h => exact .base h
    | step _ n ih =>
      rcases still_next st (reach_up hb ih) n with h | h
      · exact .step ih h
      · rw [h]; exact ih
theorem still_sets {bk bk' : Book} {k : Nat} (ok : bk.Ok k) (h6 : bk.n ≤ 6) (h24 : bk.es.length ≤ 24) (st : Still bk bk') : sets4 bk' = sets4 bk := by
  obtain ⟨s, _, _⟩ := sets_of ok h6 h24
  have ub : ∀ i ∈ [beg], UpOk bk i := fun i hi => by
    rw [List.mem_singleton.mp hi]
    intro z
    have := (ok.upI _ z).1
    have e : beg.s = 0 := rfl
    omega
  have ef : full bk' = full bk := (cl_ext fun i => still_reach st ub).symm
  have uf : ∀ i ∈ full bk, UpOk bk i := fun i hi => reach_up ub ((s.c3.mem i).mp hi)
  have eq : quiets bk' (frees (full bk)) = quiets bk (frees (full bk)) := by unfold quiets; rw [st.big.up]
  unfold sets4
  rw [ef, eq]
  have c0 : cl bk false [beg] = cl bk' false [beg] := cl_ext fun i => still_reach st ub
  have c1 : cl bk false (quiets bk (frees (full bk))) = cl bk' false (quiets bk (frees (full bk))) := cl_ext fun i => still_reach st fun j hj => uf j (List.mem_filter.mp (List.mem_filter.mp hj).1).1
  have c2 : cl bk false (frees (full bk)) = cl bk' false (frees (full bk)) := cl_ext fun i => still_reach st fun j hj => uf j (List.mem_filter.mp hj).1
  rw [← c0, ← c1, ← c2]
theorem lv_mono {hs : List Rm} {T U : Str → Nat → List Item} (e : ∀ n ∈ hs.map Rm.name, ∀ l i, i ∈ T n l → i ∈ U n l) : ∀ (d : Nat) (sh : Shp), sh.dep ≤ d → sh.of hs → ∀ l, sh.lv T l = true → sh.lv U l = true := by
  intro d
  induction d with
  | zero => intro sh hd; cases sh; rw [Shp.dep] at hd; omega
  | succ d ih =>
    intro sh hd ho l
    obtain ⟨n, s, h, bs⟩ := sh
    rw [Shp.of] at ho
    rw [Shp.dep] at hd
    rw [Shp.lv, Shp.lv, List.any_eq_true, List.any_eq_true]
    rintro ⟨i, hi, hv⟩
    refine ⟨i, e n ho.1 l i hi, ?_⟩
    rw [Bool.and_eq_true] at hv ⊢
    refine ⟨hv.1, ?_⟩
    have h2 := hv.2
    rw [Shp.lvL_eq, List.all_eq_true] at h2 ⊢
    intro b hb
    exact ih b (by have := Shp.depL_le hb; omega) (Shp.ofL_mem ho.2.2 b hb) _ (h2 b hb)
/-- the same kinds, with more edges -/
def Wider (hs hs' : List Rm) : Prop := ∀ x ∈ hs, ∃ x' ∈ hs', x'.name = x.name ∧ x'.below = x.below ∧ Bigger x.bk x'.bk
theorem wider_right {hs hs' : List Rm} (w : Wider hs hs') : ∀ (d : Nat) (sh : Shp), sh.dep ≤ d → sh.right hs → sh.right hs' := by
  intro d
  induction d with
  | zero => intro sh hd; cases sh; rw [Shp.dep] at hd; omega
  | succ d ih =>
    intro sh hd hr
    obtain ⟨n, s, h, bs⟩ := sh
    rw [Shp.dep] at hd
    rw [Shp.right] at hr ⊢
    obtain ⟨⟨x, hx, en, s0, s1, hb⟩, asc, hrs⟩ := hr
    obtain ⟨x', hx', e1, e2, b⟩ := w x hx
    refine ⟨⟨x', hx', by rw [e1, en], s0, by rw [b.n]; exact s1, fun c hc => by rw [e2]; exact hb c hc⟩, asc, rightL_of fun a ha => ih a (by have := Shp.depL_le ha; omega) (Shp.rightL_mem hrs a ha)⟩
theorem wider_lev {hs hs' : List Rm} (h : HouseOk hs) (h' : HouseOk hs') (w : Wider hs hs') : ∀ n ∈ hs.map Rm.name, ∀ l i, i ∈ levT hs n l → i ∈ levT hs' n l := by
  intro n hn l i hi
  obtain ⟨x, hx, rfl⟩ := List.mem_map.mp hn
  obtain ⟨x', hx', e1, _, b⟩ := w x hx
  unfold levT at hi ⊢
  rw [roomOf_eq (names_nd h) x hx] at hi
  rw [← e1, roomOf_eq (names_nd h') x' hx']
  have o := h.ok x hx
  have o' := h'.ok x' hx'
  exact lev_big b (sets_of o.bk o.bk.n2 o.few).1 (sets_of o'.bk o'.bk.n2 o'.few).1 l i hi
theorem withE_wider {hs : List Rm} {k : Nat} {es : List Edge} (hk : k < hs.length) (sub : ∀ e ∈ hs[k].bk.es, e ∈ es) : Wider hs (withE hs k es) := by
  intro x hx
  obtain ⟨i, hi, rfl⟩ := List.mem_iff_getElem.mp hx
  rw [withE_at hk]
  refine ⟨(hs.set k ⟨hs[k].name, ⟨hs[k].bk.n, hs[k].bk.up, hs[k].bk.deaf, es⟩, hs[k].below⟩)[i]'(by rw [List.length_set]; exact hi), List.getElem_mem _, ?_⟩
  rw [List.getElem_set]
  split
  · rename_i q
    subst q
    exact ⟨rfl, rfl, ⟨rfl, rfl, rfl, sub⟩⟩
  · exact ⟨rfl, rfl, .refl _⟩
theorem withE_get {hs : List Rm} {k : Nat} {es : List Edge} (hk : k < hs.length) (i : Nat) (h1 : i < hs.length) (h2 : i < (withE hs k es).length) : ((withE hs k es)[i]).bk = if k = i then ⟨hs[k].bk.n, hs[k].bk.up, hs[k].bk.deaf, es⟩ else hs[i].bk := by
  have e : (withE hs k es)[i] = (hs.set k ⟨hs[k].name, ⟨hs[k].bk.n, hs[k].bk.up, hs[k].bk.deaf, es⟩, hs[k].below⟩)[i]'(by rw [List.length_set]; exact h1) := by
    congr 1
    exact withE_at hk
  rw [e, List.getElem_set]
  split <;> rfl
theorem ne_self {t : Ty} {x : P} (h : t.has x = true) (hd : t.dep ≤ 100) : pNe x x = some (.bl false) := by
  have hp := Ty.plain t x h
  have hf : x.fit = true := by
    unfold P.fit
    rw [hp, Bool.true_and]
    exact decide_eq_true (Nat.le_trans (Ty.dep_le t x h) hd)
  unfold pNe
  rw [if_pos ⟨hf, hp⟩, Ty.eqv t x x h h, decide_eq_true rfl]
  rfl
theorem tab_ty (hs : List Rm) : (Ty.seq (.tup [.str, .seq (.seq (Enc.ty Item))])).has (tabP hs) = true := by
  rw [tabP_eq]
  simp only [Ty.has, List.all_eq_true]
  intro y hy
  obtain ⟨x, _, rfl⟩ := List.mem_map.mp hy
  unfold rowP setsP
  simp only [Ty.has, Ty.hasL, Bool.and_true, Bool.true_and, List.all_eq_true]
  intro z hz
  obtain ⟨S, _, rfl⟩ := List.mem_map.mp hz
  unfold itsP
  simp only [Ty.has, List.all_eq_true]
  intro w hw
  obtain ⟨i, _, rfl⟩ := List.mem_map.mp hw
  exact Enc.has i
theorem still_tab {hs : List Rm} (h : HouseOk hs) {k : Nat} (hk : k < hs.length) {es : List Edge} (st : Still hs[k].bk ⟨hs[k].bk.n, hs[k].bk.up, hs[k].bk.deaf, es⟩) : tabP (withE hs k es) = tabP hs := by
  have o := h.ok _ (List.getElem_mem hk)
  have e := still_sets o.bk o.bk.n2 o.few st
  rw [tabP_eq, tabP_eq, withE_at hk, List.map_set]
  have er : rowP ⟨hs[k].name, ⟨hs[k].bk.n, hs[k].bk.up, hs[k].bk.deaf, es⟩, hs[k].below⟩ = rowP hs[k] := by
    unfold rowP setsP
    rw [e]
  rw [er]
  have : (hs.map rowP)[k]'(by simpa using hk) = rowP hs[k] := by simp
  rw [← this, List.set_getElem_self]
end DL

set_option Elab.async false
set_option linter.all false
set_option maxRecDepth 100000
set_option maxHeartbeats 4000000
/-! The law k33, plainly: the still edges. -/
noncomputable section
namespace DL
open PySem PySem.Spec PyProof.Rows L2
theorem foldT_true {α : Type} [I : Enc α] [DecidableEq α] (hk : (Enc.ty α).key = true) : ∀ (as K : List α), foldT (K.map Enc.p) (K.map fun _ => .bl true) (as.map fun a => (en a, .bl true)) = ((addAll K as).map Enc.p, (addAll K as).map fun _ => .bl true)
  | [], K => rfl
  | a :: as, K => by
    have ih := foldT_true hk as (addA K a)
    rw [List.map_cons, foldT]
    have ea : ((P.nkL (K.map Enc.p)).any fun j => decide (j = (en a).nk)) = decide (a ∈ K) := by
      by_cases h : a ∈ K
      · rw [decide_eq_true h]
        exact List.any_eq_true.mpr ⟨_, (nk_mem hk).mpr h, decide_eq_true rfl⟩
      · rw [decide_eq_false h]
        cases q : ((P.nkL (K.map Enc.p)).any fun j => decide (j = (en a).nk)) with
        | false => rfl
        | true =>
          rw [List.any_eq_true] at q
          obtain ⟨j, hj, ej⟩ := q
          rw [of_decide_eq_true ej] at hj
          exact absurd ((nk_mem hk).mp hj) h
    have e1 : (if ((P.nkL (K.map Enc.p)).any fun j => decide (j = (en a).nk)) = true then K.map Enc.p else K.map Enc.p ++ [en a]) = (addA K a).map Enc.p := by
      rw [ea]
      unfold addA
      by_cases h : a ∈ K
      · rw [decide_eq_true h, if_pos rfl, if_pos h]
      · rw [decide_eq_false h, if_neg (by decide), if_neg h, List.map_append]; rfl
    have e2 : putA (P.nkL (K.map Enc.p)) (K.map fun _ => P.bl true) (en a).nk (.bl true) = (addA K a).map fun _ => .bl true := by
      unfold putA
      rw [ea]
      unfold addA
      by_cases h : a ∈ K
      · rw [decide_eq_true h, if_pos rfl, if_pos h]
        have zt : ∀ (ks : List _) (cs : List α), ks.length = cs.length → List.zipWith (fun j x => if j = (en a).nk then P.bl true else x) ks (cs.map fun _ => P.bl true) = cs.map fun _ => P.bl true := by
          intro ks
          induction ks with
          | nil => intro cs hc; cases cs with
            | nil => rfl
            | cons c cs => cases hc
          | cons k ks ih =>
            intro cs hc
            cases cs with
            | nil => cases hc
            | cons c cs =>
              rw [List.map_cons, List.zipWith_cons_cons, ih cs (by simpa using hc)]
              congr 1
              split <;> rfl
        refine zt _ K ?_
        have nl : ∀ cs : List α, (P.nkL (cs.map Enc.p)).length = cs.length := by
          intro cs
          induction cs with
          | nil => rfl
          | cons b cs ih => rw [List.map_cons, P.nkL, List.length_cons, List.length_cons, ih]
        exact nl K
      · rw [decide_eq_false h, if_neg (by decide), if_neg h, List.map_append]; rfl
    show foldT (if ((P.nkL (K.map Enc.p)).any fun j => decide (j = (en a).nk)) = true then K.map Enc.p else K.map Enc.p ++ [en a]) (putA (P.nkL (K.map Enc.p)) (K.map fun _ => P.bl true) (en a).nk (.bl true)) _ = _
    rw [e1, e2, ih]
    rfl
theorem edge_tup (e : Edge) : en e = .tup [.int e.b, txs e.q, .str e.w, .int e.e] := rfl
theorem edge_kT (e : Edge) : keyT (en e) = true := by
  have := en_keyD edge_key e
  rw [edge_tup] at this ⊢
  exact this
theorem dictU_edges (as : List Edge) (hl : as.length < 16777216) : gDictU [.lst (as.map fun e => P.tup [e.p, .bl true])] = some (.dT ((addAll [] as).map Edge.p) ((addAll [] as).map fun _ => .bl true)) := by
  show (pairsOf _).bind dOfU = _
  rw [pairsOf_map]
  show dOfU _ = _
  unfold dOfU
  rw [if_pos]
  · have := foldT_true edge_key as []
    rw [List.map_nil, List.map_nil] at this
    have e : (as.map fun e => (e.p, P.bl true)) = as.map fun a => (en a, P.bl true) := rfl
    rw [e, this]
    rfl
  · refine ⟨?_, by rw [List.length_map]; exact hl⟩
    rw [List.all_map, List.all_eq_true]
    exact fun a _ => edge_kT a
end DL

set_option Elab.async false
set_option linter.all false
set_option maxRecDepth 100000
set_option maxHeartbeats 4000000
/-! The law k33, plainly: parts of a turn. -/
noncomputable section
namespace DL
open PySem PySem.Spec PyProof.Rows L2
theorem ne_tupE (as : List Edge) : pNe (.tup (as.map Edge.p)) (.tup []) = some (.bl (!decide (as = []))) := by
  unfold pNe
  rw [if_pos]
  · cases as <;> simp [P.eqv, P.eqvL]
  · refine ⟨?_, by simp [P.plain, P.plainL]⟩
    unfold P.fit
    have := en_plainL as
    rw [P.plain, show P.plainL (as.map Edge.p) = true from this, Bool.true_and, P.dep]
    have d := en_depL as
    have d' : P.depL (as.map Edge.p) ≤ 7 := d
    exact decide_eq_true (by omega)
theorem in_tupE (n : Bool) (e : Edge) (es : List Edge) : pIn n e.p (.tup (es.map Edge.p)) = some (.bl (xor n (decide (e ∈ es)))) := en_inT n e es
theorem ne_E (e g : Edge) : pNe e.p g.p = some (.bl (!decide (e = g))) := en_ne e g
theorem sort_lt {es : List Edge} (nd : es.Nodup) : (sortZ es).Pairwise Edge.lt := sortZ_asc edge_ord nd
theorem sort_ok {es : List Edge} {n : Int} (h : ∀ e ∈ es, e.Ok n) : ∀ e ∈ sortZ es, e.Ok n := fun e he => h e (sortZ_mem.mp he)
abbrev kB : FS := (sIfS (sB (sOp pNe (sName 13) (sTup sNil))) (sSeq (sAsgN (sFn s__law_some (sCons (sName 1) (sCons (sName 13) sNil))) 14)
    (sSeq (sAsgN (sLc (sIt (sName 13)) (gN 16) (sB (sOp pNe (sName 16) (sName 14))) (sName 16) [16]) 15)
    (sIfS (sNotB (sB (sFn s__law_is_within (sCons (sFn s_least (sCons (sFn s__law_with (sCons (sName 3) (sCons (sName 8) (sCons (sName 15) sNil)))) sNil)) (sCons (sName 9) sNil))))) (sRet (sC (.bl false))) sNx))) sNx)
theorem less_run {hv T T' hv' gp : P} {ES FS : List P} {kz : Int} {M M1 : Mem} {d0 d2 d4 d5 d6 d7 d10 d11 d12 d14 d15 : D}
    (ne : pNe (.tup ES) (.tup []) = some (.bl true)) (e1 : s__law_some [.ref 0, .p (.tup ES)] M = .ok (.p gp) M1)
    (c : compL (gN 16) (sB (sOp pNe (sName 16) (sName 14))) (elt (sName 16)) (fun _ => true) [d0, .ref 0, d2, .p hv, d4, d5, d6, d7, .p (.int kz), .p T, d10, d11, d12, .p (.tup ES), .p gp, d15, .und, .und] ES M1 = .ok FS M1)
    (mk : mkL FS M1 = .ok (.p (.lst FS)) M1) (ew : s__law_with [.p hv, .p (.int kz), .p (.lst FS)] M1 = .ok (.p hv') M1) (el : s_least [.p hv'] M1 = .ok (.p T') M1) (wi : s__law_is_within [.p T', .p T] M1 = .ok (.p (.bl true)) M1) :
    kB [d0, .ref 0, d2, .p hv, d4, d5, d6, d7, .p (.int kz), .p T, d10, d11, d12, .p (.tup ES), d14, d15, .und, .und] M = .nx [d0, .ref 0, d2, .p hv, d4, d5, d6, d7, .p (.int kz), .p T, d10, d11, d12, .p (.tup ES), .p gp, .p (.lst FS), .und, .und] M1 := by
  have it := sit_tup (sName 13) (δ := [d0, .ref 0, d2, .p hv, d4, d5, d6, d7, .p (.int kz), .p T, d10, d11, d12, .p (.tup ES), .p gp, d15, .und, .und]) (m := M1) (m' := M1) (xs := ES) (by simp)
  unfold kB
  generalize s__law_is_within = f1 at *
  generalize s_least = f2 at *
  generalize s__law_with = f3 at *
  generalize s__law_some = f4 at *
  simp [-e_It, ne, e1, it, c, mk, ew, el, wi]
theorem less_ok {hs : List Rm} (h : HouseOk hs) (h9 : ∀ x ∈ hs, x.bk.es.length ≤ 9) {k : Nat} (hk : k < hs.length) {n : Nat} {t : Rnd} (ok : t.Ok (n + 1)) (d0 d2 d4 d5 d6 d7 d10 d11 d12 d14 d15 : D) (r : Mem) :
    ∃ (e14 e15 : D) (t' : Rnd), kB [d0, .ref 0, d2, .p (.tup (hs.map Rm.p)), d4, d5, d6, d7, .p (.int k), .p (tabP hs), d10, d11, d12, .p (.tup (hs[k].bk.es.map Edge.p)), d14, d15, .und, .und] (t.mo :: r) = .nx [d0, .ref 0, d2, .p (.tup (hs.map Rm.p)), d4, d5, d6, d7, .p (.int k), .p (tabP hs), d10, d11, d12, .p (.tup (hs[k].bk.es.map Edge.p)), e14, e15, .und, .und] (t'.mo :: r) ∧ t'.Ok n := by
  have xm := List.getElem_mem hk
  have o := h.ok _ xm
  obtain ⟨es, hes⟩ : ∃ es, hs[k].bk.es = es := ⟨_, rfl⟩
  have hl : es.length ≤ 9 := by rw [← hes]; exact h9 _ xm
  have nd : es.Nodup := by rw [← hes]; exact edges_nd o.bk
  have eo : ∀ e ∈ es, e.Ok hs[k].bk.n := by rw [← hes]; exact o.bk.esI
  rw [hes]
  have ne := ne_tupE es
  by_cases hz : es = []
  · subst hz
    refine ⟨d14, d15, t, ?_, ok.le (by omega)⟩
    rw [decide_eq_true rfl] at ne
    clear h9
    generalize (k : Int) = kz at *
    generalize P.tup (([] : List Edge).map Edge.p) = E at *
    generalize tabP hs = T at *
    generalize P.tup (hs.map Rm.p) = hv at *
    unfold kB
    simp [ne]
  · rw [decide_eq_false hz] at ne
    obtain ⟨y, hy, t1, e1, ok1⟩ := some_okT ok (xs := es.map Edge.p) (by rw [List.length_map]; exact List.length_pos_iff.mpr hz) (by rw [List.length_map]; omega) r
    obtain ⟨g, hg, rfl⟩ := List.mem_map.mp hy
    have c := compL_map (g := gN 16) (ft := sB (sOp pNe (sName 16) (sName 14))) (fe := sName 16) (ok := fun _ => true) (δ := [d0, .ref 0, d2, .p (.tup (hs.map Rm.p)), d4, d5, d6, d7, .p (.int k), .p (tabP hs), d10, d11, d12, .p (.tup (es.map Edge.p)), .p g.p, d15, .und, .und]) (m := t1.mo :: r) Edge.p Edge.p (fun y => !decide (y = g)) id rfl (xs := es) fun y _ => ⟨[d0, .ref 0, d2, .p (.tup (hs.map Rm.p)), d4, d5, d6, d7, .p (.int k), .p (tabP hs), d10, d11, d12, .p (.tup (es.map Edge.p)), .p g.p, d15, .p y.p, .und], rfl, by simp [ne_E], fun _ => by simp⟩
    rw [List.map_id] at c
    obtain ⟨fs, hfs⟩ : ∃ fs, es.filter (fun y => !decide (y = g)) = fs := ⟨_, rfl⟩
    have fl : fs.length ≤ 9 := by rw [← hfs]; exact Nat.le_trans (List.length_filter_le _ _) hl
    have fsub : ∀ e ∈ fs, e ∈ es := fun e he => by rw [← hfs] at he; exact (List.mem_filter.mp he).1
    rw [hfs] at c
    have mk := mkL_ok (xs := fs.map Edge.p) (m := t1.mo :: r) (by rw [List.length_map]; omega)
    have ew := with_ok h hk fs (t1.mo :: r)
    have ho : HouseOk (withE hs k (sortZ fs)) := withE_ok h hk (sort_lt (by rw [← hfs]; exact nd.filter _)) (sort_ok fun e he => eo e (fsub e he)) (by rw [sortZ_len]; omega)
    have el := least_ok ho (t1.mo :: r)
    have wi := within_ok ho h (withE_len hk) (fun i h1 h2 l => by
      rw [withE_get hk i h2 h1]
      split
      · rename_i q
        subst q
        have b : Bigger ⟨hs[k].bk.n, hs[k].bk.up, hs[k].bk.deaf, sortZ fs⟩ hs[k].bk := ⟨rfl, rfl, rfl, fun e he => by rw [hes]; exact fsub e (sortZ_mem.mp he)⟩
        have o' := ho.ok _ (List.getElem_mem h1)
        have eb := withE_get (es := sortZ fs) hk k hk h1
        rw [if_pos rfl] at eb
        have s' := sets_of o'.bk o'.bk.n2 o'.few
        rw [eb] at s'
        exact lev_big b s'.1 (sets_of o.bk o.bk.n2 o.few).1 l
      · exact fun i hi => hi) (t1.mo :: r)
    exact ⟨.p g.p, .p (.lst (fs.map Edge.p)), t1, less_run ne e1 c mk ew el wi, ok1⟩
end DL

set_option Elab.async false
set_option linter.all false
set_option maxRecDepth 100000
set_option maxHeartbeats 4000000
/-! The law k33, plainly: the runs of a turn. -/
noncomputable section
namespace DL
open PySem PySem.Spec PyProof.Rows L2
abbrev kC : FB := (sAndB (sB (sOp pLt (sFn s__law_size (sCons (sName 6) sNil)) (sC (.int 13)))) (sAndB (sB (sFn s_has (sCons (sName 3) (sCons (sName 6) sNil)))) (sNotB (sB (sFn s_has (sCons (sName 5) (sCons (sName 6) sNil)))))))
abbrev kD : FS := (sSeq (sAsgN (sFz (sCallD gDictU (sCons (sOp pAdd (sLc (sIt (sName 13)) (gN 16) sYes (sTup (sCons (sName 16) (sCons (sC (.bl true)) sNil))) [16]) (sLc (sIt1 (sCons (sName 10) sNil)) (gN 17) sYes (sTup (sCons (sTup (sCons (sName 17) (sCons (sTup sNil) (sCons (sC (.str "go")) (sCons (sName 17) sNil))))) (sCons (sC (.bl true)) sNil))) [17])) sNil))) 7)
    (sIfS (sB (sOp pNe (sFn s_least (sCons (sFn s__law_with (sCons (sName 3) (sCons (sName 8) (sCons (sCallL gList (sCons (sName 7) sNil)) sNil)))) sNil)) (sName 9))) (sRet (sC (.bl false))) sNx))
theorem cond_run {hv mv sp : P} {z : Int} {b1 b2 : Bool} {M : Mem} {d0 d1 d2 d4 d7 d8 d9 d10 d11 d12 d13 d14 d15 d16 d17 : D} (e1 : s__law_size [.p sp] M = .ok (.p (.int z)) M) (hz : z < 13) (e2 : s_has [.p hv, .p sp] M = .ok (.p (.bl b1)) M) (e3 : s_has [.p mv, .p sp] M = .ok (.p (.bl b2)) M) (h : b1 = true → b2 = true) :
    kC [d0, d1, d2, .p hv, d4, .p mv, .p sp, d7, d8, d9, d10, d11, d12, d13, d14, d15, d16, d17] M = .ok false M := by
  unfold kC
  generalize s__law_size = f1 at *
  generalize s_has = f2 at *
  cases b1
  · simp [e1, hz, e2]
  · have := h rfl
    subst this
    simp [e1, hz, e2, e3]
theorem still_run {hv hv' T : P} {ES A B L KP : List P} {n kz : Int} {o : MO} {KD : P} {M M2 : Mem} {d0 d1 d2 d4 d5 d6 d7 d11 d12 d14 d15 : D}
    (c1 : compL (gN 16) sYes (elt (sTup (sCons (sName 16) (sCons (sC (.bl true)) sNil)))) (fun _ => true) [d0, d1, d2, .p hv, d4, d5, d6, d7, .p (.int kz), .p T, .p (.int n), d11, d12, .p (.tup ES), d14, d15, .und, .und] ES M = .ok A M)
    (m1 : mkL A M = .ok (.p (.lst A)) M)
    {NK : List P} (i2 : sIt1 (sCons (sName 10) sNil) [d0, d1, d2, .p hv, d4, d5, d6, d7, .p (.int kz), .p T, .p (.int n), d11, d12, .p (.tup ES), d14, d15, .und, .und] M = .ok ⟨NK, fun _ => true⟩ M)
    (c2 : compL (gN 17) sYes (elt (sTup (sCons (sTup (sCons (sName 17) (sCons (sTup sNil) (sCons (sC (.str "go")) (sCons (sName 17) sNil))))) (sCons (sC (.bl true)) sNil)))) (fun _ => true) [d0, d1, d2, .p hv, d4, d5, d6, d7, .p (.int kz), .p T, .p (.int n), d11, d12, .p (.tup ES), d14, d15, .und, .und] NK M = .ok B M)
    (m2 : mkL B M = .ok (.p (.lst B)) M) (ad : pAdd (.lst A) (.lst B) = some (.lst L)) (gd : gDictU [.lst L] = some o) (fz : fzD (.ref M.length) (M ++ [some o]) = .ok (.p KD) M2)
    (gl : gList [KD] = some KP) (ew : s__law_with [.p hv, .p (.int kz), .p (.lst KP)] M2 = .ok (.p hv') M2) (el : s_least [.p hv'] M2 = .ok (.p T) M2) (ne : pNe T T = some (.bl false)) :
    kD [d0, d1, d2, .p hv, d4, d5, d6, d7, .p (.int kz), .p T, .p (.int n), d11, d12, .p (.tup ES), d14, d15, .und, .und] M = .nx [d0, d1, d2, .p hv, d4, d5, d6, .p KD, .p (.int kz), .p T, .p (.int n), d11, d12, .p (.tup ES), d14, d15, .und, .und] M2 := by
  have it := sit_tup (sName 13) (δ := [d0, d1, d2, .p hv, d4, d5, d6, d7, .p (.int kz), .p T, .p (.int n), d11, d12, .p (.tup ES), d14, d15, .und, .und]) (m := M) (m' := M) (xs := ES) (by simp)
  unfold kD
  generalize s_least = f2 at *
  generalize s__law_with = f3 at *
  simp [-e_It, -e_It1, it, c1, m1, i2, c2, m2, ad, gd, fz, gl, ew, el, ne]
abbrev kT (kBv kDv : FS) (kCv : FB) : FS := (sSeq (sAsgN (sFn s__law_house (sCons (sName 1) (sCons (sC (.int 3)) (sCons (sC (.int 4)) (sCons (sC (.int 5)) sNil))))) 3)
    (sSeq (sPar2 (sCons (sFn s__law_draw (sCons (sName 1) (sCons (sCall gLen (sCons (sName 3) sNil)) sNil))) (sCons (sFn s_least (sCons (sName 3) sNil)) sNil)) 8 9)
    (sSeq (sAsgG (sOp pIx (sOp pIx (sOp pIx (sName 3) (sName 8)) (sC (.int 1))) (sC (.int 0))) (gT 4 (gsC (gN 10) (gsC (gN 11) (gsC (gN 12) (gsC (gN 13) gsN))))))
    (sSeq (sAsgN (sFn s__law_edge (sCons (sName 1) (sCons (sFn s__law_draw (sCons (sName 1) (sCons (sName 10) sNil))) (sCons (sFn s__law_draw (sCons (sName 1) (sCons (sName 10) sNil))) sNil)))) 4)
    (sSeq (sAsgN (sFn s__law_with (sCons (sName 3) (sCons (sName 8) (sCons (sOp pAdd (sCallL gList (sCons (sName 13) sNil)) (sLc (sIt (sLst (sCons (sName 4) sNil))) (gN 16) (sB (sOp (pIn true) (sName 16) (sName 13))) (sName 16) [16])) sNil)))) 5)
    (sSeq (sIfS (sNotB (sB (sFn s__law_is_within (sCons (sName 9) (sCons (sFn s_least (sCons (sName 5) sNil)) sNil))))) (sRet (sC (.bl false))) sNx)
    (sSeq kBv
    (sSeq (sAsgN (sFn s__law_shape (sCons (sName 1) (sCons (sName 3) (sCons (sOp pIx (sFn s__law_some (sCons (sName 1) (sCons (sName 3) sNil))) (sC (.int 0))) (sCons (sC (.int 3)) sNil))))) 6)
    (sSeq (sIfS kCv (sRet (sC (.bl false))) sNx) kDv)))))))))
theorem turn_run {kBv kDv : FS} {kCv : FB} {xp x1 u w : P} {ES F L2' : List P} {hv mv T Tm e sp yp : P} {n kz lz s1 s2 : Int} {nm : Str} {M0 M1 M2 M3 M4 M5 M6 M7 M8 M9 : Mem} {d0 d2 d3 d4 d5 d6 d7 d8 d9 d10 d11 d12 d13 d14 d15 f14 f15 KD : D}
    (e1 : s__law_house [.ref 0, .p (.int 3), .p (.int 4), .p (.int 5)] M0 = .ok (.p hv) M1) (gl : gLen [hv] = some (.int lz)) (e2 : s__law_draw [.ref 0, .p (.int lz)] M1 = .ok (.p (.int kz)) M2) (e3 : s_least [.p hv] M2 = .ok (.p T) M2)
    (i1 : pIx hv (.int kz) = some xp) (i2 : pIx xp (.int 1) = some x1) (i3 : pIx x1 (.int 0) = some (.tup [.int n, u, w, .tup ES]))
    (e4 : s__law_draw [.ref 0, .p (.int n)] M2 = .ok (.p (.int s1)) M3) (e5 : s__law_draw [.ref 0, .p (.int n)] M3 = .ok (.p (.int s2)) M4) (e6 : s__law_edge [.ref 0, .p (.int s1), .p (.int s2)] M4 = .ok (.p e) M5)
    (c : compL (gN 16) (sB (sOp (pIn true) (sName 16) (sName 13))) (elt (sName 16)) (fun _ => true) [d0, .ref 0, d2, .p hv, .p e, d5, d6, d7, .p (.int kz), .p T, .p (.int n), .p u, .p w, .p (.tup ES), d14, d15, .und, .und] [e] M5 = .ok F M5) (mk : mkL F M5 = .ok (.p (.lst F)) M5)
    (ad : pAdd (.lst ES) (.lst F) = some (.lst L2')) (ew : s__law_with [.p hv, .p (.int kz), .p (.lst L2')] M5 = .ok (.p mv) M5) (el : s_least [.p mv] M5 = .ok (.p Tm) M5) (wi : s__law_is_within [.p T, .p Tm] M5 = .ok (.p (.bl true)) M5)
    (eB : kBv [d0, .ref 0, d2, .p hv, .p e, .p mv, d6, d7, .p (.int kz), .p T, .p (.int n), .p u, .p w, .p (.tup ES), d14, d15, .und, .und] M5 = .nx [d0, .ref 0, d2, .p hv, .p e, .p mv, d6, d7, .p (.int kz), .p T, .p (.int n), .p u, .p w, .p (.tup ES), f14, f15, .und, .und] M6)
    (e7 : s__law_some [.ref 0, .p hv] M6 = .ok (.p yp) M7) (i4 : pIx yp (.int 0) = some (.str nm)) (e8 : s__law_shape [.ref 0, .p hv, .p (.str nm), .p (.int 3)] M7 = .ok (.p sp) M8)
    (eC : kCv [d0, .ref 0, d2, .p hv, .p e, .p mv, .p sp, d7, .p (.int kz), .p T, .p (.int n), .p u, .p w, .p (.tup ES), f14, f15, .und, .und] M8 = .ok false M8)
    (eD : kDv [d0, .ref 0, d2, .p hv, .p e, .p mv, .p sp, d7, .p (.int kz), .p T, .p (.int n), .p u, .p w, .p (.tup ES), f14, f15, .und, .und] M8 = .nx [d0, .ref 0, d2, .p hv, .p e, .p mv, .p sp, KD, .p (.int kz), .p T, .p (.int n), .p u, .p w, .p (.tup ES), f14, f15, .und, .und] M9) :
    kT kBv kDv kCv [d0, .ref 0, d2, d3, d4, d5, d6, d7, d8, d9, d10, d11, d12, d13, d14, d15, .und, .und] M0 = .nx [d0, .ref 0, d2, .p hv, .p e, .p mv, .p sp, KD, .p (.int kz), .p T, .p (.int n), .p u, .p w, .p (.tup ES), f14, f15, .und, .und] M9 := by
  have gli : gList [.tup ES] = some ES := rfl
  unfold kT
  generalize s__law_is_within = g1 at *
  generalize s_least = g2 at *
  generalize s__law_with = g3 at *
  generalize s__law_some = g4 at *
  generalize s__law_shape = g5 at *
  generalize s__law_house = g6 at *
  generalize s__law_draw = g7 at *
  generalize s__law_edge = g8 at *
  simp [e1, gl, e2, e3, i1, i2, i3, e4, e5, e6, c, mk, ad, ew, el, wi, eB, e7, i4, e8, eC, eD, gli]
end DL

set_option Elab.async false
set_option linter.all false
set_option maxRecDepth 100000
set_option maxHeartbeats 4000000
/-! The law k33, plainly: a turn. -/
noncomputable section
namespace DL
open PySem PySem.Spec PyProof.Rows L2
theorem cat_lst' {xs ys : List P} (h : xs.length + ys.length ≤ 16777216) : pAdd (.lst xs) (.lst ys) = some (.lst (xs ++ ys)) := if_pos h
theorem self_ok {n s : Int} (h0 : 0 ≤ s) (h1 : s < n) : (selfE s).Ok n := ⟨h0, h1, h0, h1, show ([] : List Str) ∈ asksT by decide, show ("go" : Str) ∈ deedsT by decide⟩
theorem still_turn {hs : List Rm} (h : HouseOk hs) (h9 : ∀ x ∈ hs, x.bk.es.length ≤ 9) {k : Nat} (hk : k < hs.length) (d0 d1 d2 d4 d5 d6 d7 d11 d12 d14 d15 : D) (M : Mem) :
    ∃ KD, kD [d0, d1, d2, .p (.tup (hs.map Rm.p)), d4, d5, d6, d7, .p (.int k), .p (tabP hs), .p (.int hs[k].bk.n), d11, d12, .p (.tup (hs[k].bk.es.map Edge.p)), d14, d15, .und, .und] M = .nx [d0, d1, d2, .p (.tup (hs.map Rm.p)), d4, d5, d6, .p KD, .p (.int k), .p (tabP hs), .p (.int hs[k].bk.n), d11, d12, .p (.tup (hs[k].bk.es.map Edge.p)), d14, d15, .und, .und] (M ++ [none]) := by
  have xm := List.getElem_mem hk
  have o := h.ok _ xm
  obtain ⟨x, hx⟩ : ∃ x, hs[k] = x := ⟨_, rfl⟩
  rw [hx] at xm o ⊢
  have hl := h9 x xm
  have n1 := o.bk.n1
  have n2 := o.bk.n2
  obtain ⟨N, hN⟩ : ∃ N : Nat, x.bk.n = (N : Int) := ⟨x.bk.n.toNat, by omega⟩
  have N6 : N ≤ 6 := by omega
  have zn : ∀ z ∈ numsTo N, 0 ≤ z ∧ z < x.bk.n := fun z hz => by
    unfold numsTo at hz
    obtain ⟨i, hi, rfl⟩ := List.mem_map.mp hz
    have : i < N := by simpa using hi
    omega
  have sl : ((numsTo N).map selfE).length ≤ 6 := by rw [List.length_map, numsTo_len]; exact N6
  have kl := addAll_len (x.bk.es ++ (numsTo N).map selfE) []
  rw [List.length_append] at kl
  obtain ⟨K, hK⟩ : ∃ K, addAll [] (x.bk.es ++ (numsTo N).map selfE) = K := ⟨_, rfl⟩
  rw [hK] at kl
  have kl2 : K.length ≤ 24 := by simp only [List.length_nil] at kl; omega
  have knd : K.Nodup := by rw [← hK]; exact addAll_nd List.nodup_nil
  have kmem : ∀ e, e ∈ K ↔ e ∈ x.bk.es ∨ e ∈ (numsTo N).map selfE := fun e => by rw [← hK, addAll_mem, List.mem_append]; simp
  have kok : ∀ e ∈ K, e.Ok x.bk.n := fun e he => by
    rcases (kmem e).mp he with q | q
    · exact o.bk.esI e q
    · obtain ⟨z, hz, rfl⟩ := List.mem_map.mp q
      exact self_ok (zn z hz).1 (zn z hz).2
  have st : Still hs[k].bk ⟨hs[k].bk.n, hs[k].bk.up, hs[k].bk.deaf, sortZ K⟩ := by
    rw [hx]
    refine ⟨⟨rfl, rfl, rfl, fun e he => sortZ_mem.mpr ((kmem e).mpr (.inl he))⟩, fun e he => ?_⟩
    rcases (kmem e).mp (sortZ_mem.mp he) with q | q
    · exact .inl q
    · obtain ⟨z, _, rfl⟩ := List.mem_map.mp q
      exact .inr ⟨z, rfl⟩
  have ho : HouseOk (withE hs k (sortZ K)) := withE_ok h hk (sort_lt knd) (sort_ok (by rw [hx]; exact kok)) (by rw [sortZ_len]; exact kl2)
  have et := still_tab h hk st
  have c1 := compL_map (g := gN 16) (ft := sYes) (fe := sTup (sCons (sName 16) (sCons (sC (.bl true)) sNil))) (ok := fun _ => true) (δ := [d0, d1, d2, .p (.tup (hs.map Rm.p)), d4, d5, d6, d7, .p (.int k), .p (tabP hs), .p (.int x.bk.n), d11, d12, .p (.tup (x.bk.es.map Edge.p)), d14, d15, .und, .und]) (m := M) Edge.p (fun e => P.tup [e.p, .bl true]) (fun _ => true) id rfl (xs := x.bk.es) fun e _ => ⟨[d0, d1, d2, .p (.tup (hs.map Rm.p)), d4, d5, d6, d7, .p (.int k), .p (tabP hs), .p (.int x.bk.n), d11, d12, .p (.tup (x.bk.es.map Edge.p)), d14, d15, .p e.p, .und], rfl, rfl, fun _ => rfl⟩
  have f1 : ((x.bk.es.filter fun _ => true).map id) = x.bk.es := by simp
  rw [f1] at c1
  have c2 := compL_map (g := gN 17) (ft := sYes) (fe := sTup (sCons (sTup (sCons (sName 17) (sCons (sTup sNil) (sCons (sC (.str "go")) (sCons (sName 17) sNil))))) (sCons (sC (.bl true)) sNil))) (ok := fun _ => true) (δ := [d0, d1, d2, .p (.tup (hs.map Rm.p)), d4, d5, d6, d7, .p (.int k), .p (tabP hs), .p (.int x.bk.n), d11, d12, .p (.tup (x.bk.es.map Edge.p)), d14, d15, .und, .und]) (m := M) P.int (fun z => P.tup [(selfE z).p, .bl true]) (fun _ => true) id rfl (xs := numsTo N) fun z _ => ⟨[d0, d1, d2, .p (.tup (hs.map Rm.p)), d4, d5, d6, d7, .p (.int k), .p (tabP hs), .p (.int x.bk.n), d11, d12, .p (.tup (x.bk.es.map Edge.p)), d14, d15, .und, .p (.int z)], rfl, rfl, fun _ => rfl⟩
  have f2 : (((numsTo N).filter fun _ => true).map id) = numsTo N := by simp
  rw [f2] at c2
  have m1 := mkL_ok (xs := x.bk.es.map fun e => P.tup [e.p, .bl true]) (m := M) (by rw [List.length_map]; omega)
  have m2 := mkL_ok (xs := (numsTo N).map fun z => P.tup [(selfE z).p, .bl true]) (m := M) (by rw [List.length_map, numsTo_len]; omega)
  have ad : pAdd (.lst (x.bk.es.map fun e => P.tup [e.p, .bl true])) (.lst ((numsTo N).map fun z => P.tup [(selfE z).p, .bl true])) = some (.lst ((x.bk.es ++ (numsTo N).map selfE).map fun e => P.tup [e.p, .bl true])) := by
    rw [cat_lst' (by rw [List.length_map, List.length_map, numsTo_len]; omega), List.map_append, List.map_map]
    rfl
  have gd := dictU_edges (x.bk.es ++ (numsTo N).map selfE) (by rw [List.length_append]; omega)
  rw [hK] at gd
  have i2 : sIt1 (sCons (sName 10) sNil) [d0, d1, d2, .p (.tup (hs.map Rm.p)), d4, d5, d6, d7, .p (.int k), .p (tabP hs), .p (.int x.bk.n), d11, d12, .p (.tup (x.bk.es.map Edge.p)), d14, d15, .und, .und] M = .ok ⟨(numsTo N).map P.int, fun _ => true⟩ M := it1_nat (x := x.bk.n) rfl hN (by omega)
  have fz : fzD (.ref M.length) (M ++ [some (.dT (K.map Edge.p) (K.map fun _ => .bl true))]) = .ok (.p (.dT (K.map Edge.p) (K.map fun _ => .bl true))) (M ++ [none]) := by
    unfold fzD
    have g : (M ++ [some (MO.dT (K.map Edge.p) (K.map fun _ => .bl true))])[M.length]? = some (some (.dT (K.map Edge.p) (K.map fun _ => .bl true))) := by simp
    dsimp only
    rw [g]
    simp [fzO]
  have ew := with_ok h hk K (M ++ [none])
  have el := least_ok ho (M ++ [none])
  rw [et] at el
  exact ⟨_, still_run c1 m1 i2 c2 m2 ad gd fz rfl ew el (ne_self (tab_ty hs) (by decide))⟩
theorem turn_k33 {n : Nat} {t : Rnd} (h0 : t.Ok (n + 700)) (d0 d2 d3 d4 d5 d6 d7 d8 d9 d10 d11 d12 d13 d14 d15 : D) (r : Mem) :
    ∃ (e3 e4 e5 e6 e7 e8 e9 e10 e11 e12 e13 e14 e15 : D) (t' : Rnd) (r' : Mem), kT kB kD kC [d0, .ref 0, d2, d3, d4, d5, d6, d7, d8, d9, d10, d11, d12, d13, d14, d15, .und, .und] (t.mo :: r) = .nx [d0, .ref 0, d2, e3, e4, e5, e6, e7, e8, e9, e10, e11, e12, e13, e14, e15, .und, .und] (t'.mo :: r') ∧ t'.Ok n := by
  obtain ⟨hs, t1, e1, h, ⟨_, hbs⟩, ok1⟩ := house_ok (n := n + 60) (st := 4) (mo := 5) (K := 3) (S := 4) (M := 5) (by decide) (by decide) rfl rfl (by decide) (by decide) (by decide) (h0.le (by omega)) r
  have h9 : ∀ x ∈ hs, x.bk.es.length ≤ 9 := fun x hx => by have := (hbs x hx).2; omega
  have l1 := h.l1
  have l2 := h.l2
  obtain ⟨v, t2, e2, v0, v1, ok2⟩ := draw_ok (n := n + 59) (t := t1) ok1 (top := (hs.length : Int)) (by omega) (by omega) r
  obtain ⟨k, rfl⟩ : ∃ k : Nat, v = (k : Int) := ⟨v.toNat, by omega⟩
  have hk : k < hs.length := by omega
  have xm := List.getElem_mem hk
  have o := h.ok _ xm
  have nd := edges_nd o.bk
  have n1 := o.bk.n1
  have n2 := o.bk.n2
  have hl := h9 _ xm
  have e3 := least_ok h (t2.mo :: r)
  obtain ⟨s1, t3, e4, a0, a1, ok3⟩ := draw_ok (n := n + 58) (t := t2) ok2 (top := hs[k].bk.n) (by omega) (by omega) r
  obtain ⟨s2, t4, e5, b0, b1, ok4⟩ := draw_ok (n := n + 57) (t := t3) ok3 (top := hs[k].bk.n) (by omega) (by omega) r
  obtain ⟨e, he, t5, e6, ok5⟩ := edge_ok (n := n + 55) ok4 a0 a1 b0 b1 r
  obtain ⟨F, hF⟩ : ∃ F, [e].filter (fun y => !decide (y ∈ hs[k].bk.es)) = F := ⟨_, rfl⟩
  have Fl : F.length ≤ 1 := by rw [← hF]; exact List.length_filter_le _ _
  have Fm : ∀ y ∈ F, y = e ∧ y ∉ hs[k].bk.es := fun y hy => by
    rw [← hF] at hy
    have := List.mem_filter.mp hy
    exact ⟨List.mem_singleton.mp this.1, by simpa using this.2⟩
  have nd2 : (hs[k].bk.es ++ F).Nodup := by
    rw [List.nodup_append]
    refine ⟨nd, by rw [← hF]; exact (List.nodup_cons.mpr ⟨by simp, List.nodup_nil⟩).filter _, fun a ha b hb z => (Fm b hb).2 (by rw [← z]; exact ha)⟩
  have eo2 : ∀ y ∈ hs[k].bk.es ++ F, y.Ok hs[k].bk.n := fun y hy => by
    rcases List.mem_append.mp hy with q | q
    · exact o.bk.esI y q
    · rw [(Fm y q).1]; exact he
  have ho : HouseOk (withE hs k (sortZ (hs[k].bk.es ++ F))) := withE_ok h hk (sort_lt nd2) (sort_ok eo2) (by rw [sortZ_len, List.length_append]; omega)
  have wd : Wider hs (withE hs k (sortZ (hs[k].bk.es ++ F))) := withE_wider hk fun y hy => sortZ_mem.mpr (List.mem_append_left _ hy)
  have c := compL_map (g := gN 16) (ft := sB (sOp (pIn true) (sName 16) (sName 13))) (fe := sName 16) (ok := fun _ => true) (δ := [d0, .ref 0, d2, .p (.tup (hs.map Rm.p)), .p e.p, d5, d6, d7, .p (.int k), .p (tabP hs), .p (.int hs[k].bk.n), .p (numsT hs[k].bk.up), .p (numsT hs[k].bk.deaf), .p (.tup (hs[k].bk.es.map Edge.p)), d14, d15, .und, .und]) (m := t5.mo :: r) Edge.p Edge.p (fun y => !decide (y ∈ hs[k].bk.es)) id rfl (xs := [e]) fun y _ => ⟨[d0, .ref 0, d2, .p (.tup (hs.map Rm.p)), .p e.p, d5, d6, d7, .p (.int k), .p (tabP hs), .p (.int hs[k].bk.n), .p (numsT hs[k].bk.up), .p (numsT hs[k].bk.deaf), .p (.tup (hs[k].bk.es.map Edge.p)), d14, d15, .p y.p, .und], rfl, by
    generalize tabP hs = T
    generalize P.tup (hs.map Rm.p) = hv
    generalize hs[k].bk.es = es
    simp [in_tupE], fun _ => rfl⟩
  rw [List.map_id, hF] at c
  have mk := mkL_ok (xs := F.map Edge.p) (m := t5.mo :: r) (by rw [List.length_map]; omega)
  have ad : pAdd (.lst (hs[k].bk.es.map Edge.p)) (.lst (F.map Edge.p)) = some (.lst ((hs[k].bk.es ++ F).map Edge.p)) := by
    rw [cat_lst' (by rw [List.length_map, List.length_map]; omega), List.map_append]
  have ew := with_ok h hk (hs[k].bk.es ++ F) (t5.mo :: r)
  have el := least_ok ho (t5.mo :: r)
  have wi := within_ok h ho (withE_len hk).symm (fun i h1 h2 l => by
    rw [withE_get hk i h1 h2]
    split
    · rename_i q
      subst q
      have b : Bigger hs[k].bk ⟨hs[k].bk.n, hs[k].bk.up, hs[k].bk.deaf, sortZ (hs[k].bk.es ++ F)⟩ := ⟨rfl, rfl, rfl, fun y hy => sortZ_mem.mpr (List.mem_append_left _ hy)⟩
      have o' := ho.ok _ (List.getElem_mem h2)
      have eb := withE_get (es := sortZ (hs[k].bk.es ++ F)) hk k hk h2
      rw [if_pos rfl] at eb
      have s' := sets_of o'.bk o'.bk.n2 o'.few
      rw [eb] at s'
      exact lev_big b (sets_of o.bk o.bk.n2 o.few).1 s'.1 l
    · exact fun i hi => hi) (t5.mo :: r)
  obtain ⟨f14, f15, t6, eB, ok6⟩ := less_ok h h9 hk (n := n + 54) (t := t5) ok5 d0 d2 (.p e.p) (.p (.tup ((withE hs k (sortZ (hs[k].bk.es ++ F))).map Rm.p))) d6 d7 (.p (.int hs[k].bk.n)) (.p (numsT hs[k].bk.up)) (.p (numsT hs[k].bk.deaf)) d14 d15 r
  obtain ⟨yp, hyp, t7, e7, ok7⟩ := some_okT (n := n + 53) ok6 (xs := hs.map Rm.p) (by rw [List.length_map]; omega) (by rw [List.length_map]; omega) r
  obtain ⟨y, hy, rfl⟩ := List.mem_map.mp hyp
  obtain ⟨sh, t8, e8, r1, r2, r3, r4, ok8⟩ := lshape_ok h 2 6 (by decide) (by decide) (n + 3) t7 y r hy (ok7.le (by show n + 3 + 50 ≤ n + 53; omega))
  have r4' : sh.size ≤ 7 := r4
  have sz : s__law_size [.p sh.p] (t8.mo :: r) = .ok (.p (.int sh.size)) (t8.mo :: r) := size_ok 6 sh (by omega) (by omega) _
  have hh1 := has_ok h r1 (by omega) (t8.mo :: r)
  have r1' := wider_right wd 3 sh (by omega) r1
  have hh2 := has_ok ho r1' (by omega) (t8.mo :: r)
  have mono := lv_mono (wider_lev h ho wd) 3 sh (by omega) (right_of 3 sh (by omega) r1 (by omega)) 3
  obtain ⟨KD, eD⟩ := still_turn h h9 hk d0 (.ref 0) d2 (.p e.p) (.p (.tup ((withE hs k (sortZ (hs[k].bk.es ++ F))).map Rm.p))) (.p sh.p) d7 (.p (numsT hs[k].bk.up)) (.p (numsT hs[k].bk.deaf)) f14 f15 (t8.mo :: r)
  have eC := cond_run (d0 := d0) (d1 := .ref 0) (d2 := d2) (d4 := .p e.p) (d7 := d7) (d8 := .p (.int k)) (d9 := .p (tabP hs)) (d10 := .p (.int hs[k].bk.n)) (d11 := .p (numsT hs[k].bk.up)) (d12 := .p (numsT hs[k].bk.deaf)) (d13 := .p (.tup (hs[k].bk.es.map Edge.p))) (d14 := f14) (d15 := f15) (d16 := .und) (d17 := .und) sz (by omega) hh1 hh2 mono
  have gln : gLen [.tup (hs.map Rm.p)] = some (.int hs.length) := by simp
  exact ⟨_, _, _, _, _, _, _, _, _, _, _, _, _, t8, r ++ [none], turn_run e1 gln e2 e3 (ix_tupM Rm.p hk) rfl rfl e4 e5 e6 c mk ad ew el wi eB e7 rfl e8 eC eD, ok8.le (by omega)⟩
end DL

set_option Elab.async false
set_option linter.all false
set_option maxRecDepth 100000
set_option maxHeartbeats 4000000
/-! The law k33 answers yes. -/
noncomputable section
namespace DL
open PySem PySem.Spec PyProof.Rows L2
theorem turns_k33 {n : Nat} (d0 : D) : ∀ (xs : List P) (t : Rnd) (d2 d3 d4 d5 d6 d7 d8 d9 d10 d11 d12 d13 d14 d15 : D) (r : Mem), t.Ok (n + 700 * xs.length) →
    ∃ (e2 e3 e4 e5 e6 e7 e8 e9 e10 e11 e12 e13 e14 e15 : D) (t' : Rnd) (r' : Mem), forL (gN 2) (kT kB kD kC) (fun _ => true) xs [d0, .ref 0, d2, d3, d4, d5, d6, d7, d8, d9, d10, d11, d12, d13, d14, d15, .und, .und] (t.mo :: r) = .nx [d0, .ref 0, e2, e3, e4, e5, e6, e7, e8, e9, e10, e11, e12, e13, e14, e15, .und, .und] (t'.mo :: r')
  | [], t, d2, d3, d4, d5, d6, d7, d8, d9, d10, d11, d12, d13, d14, d15, r, _ => ⟨d2, d3, d4, d5, d6, d7, d8, d9, d10, d11, d12, d13, d14, d15, t, r, by simp [forL]⟩
  | x :: xs, t, d2, d3, d4, d5, d6, d7, d8, d9, d10, d11, d12, d13, d14, d15, r, ok => by
    obtain ⟨e3, e4, e5, e6, e7, e8, e9, e10, e11, e12, e13, e14, e15, t1, r1, e, ok1⟩ := turn_k33 (n := n + 700 * xs.length) (t := t) (ok.le (by rw [List.length_cons]; omega)) d0 (.p x) d3 d4 d5 d6 d7 d8 d9 d10 d11 d12 d13 d14 d15 r
    obtain ⟨f2, f3, f4, f5, f6, f7, f8, f9, f10, f11, f12, f13, f14, f15, t', r', e'⟩ := turns_k33 (n := n) d0 xs t1 (.p x) e3 e4 e5 e6 e7 e8 e9 e10 e11 e12 e13 e14 e15 r1 ok1
    refine ⟨f2, f3, f4, f5, f6, f7, f8, f9, f10, f11, f12, f13, f14, f15, t', r', ?_⟩
    have g : gN 2 (.p x) [d0, .ref 0, d2, d3, d4, d5, d6, d7, d8, d9, d10, d11, d12, d13, d14, d15, .und, .und] = some [d0, .ref 0, .p x, d3, d4, d5, d6, d7, d8, d9, d10, d11, d12, d13, d14, d15, .und, .und] := rfl
    rw [forL, if_pos rfl, g]
    dsimp only
    rw [e]
    exact e'
theorem law_ok (ns : List Int) (h : ns.length ≤ 63) : s_law [.p (.lst (ns.map P.int))] [] = .ok (.p (.bl true)) [] := by
  obtain ⟨t, e1, ok⟩ := begun_ok ns h
  obtain ⟨f2, f3, f4, f5, f6, f7, f8, f9, f10, f11, f12, f13, f14, f15, t', r', e2⟩ := turns_k33 (n := 0) (.p (.lst (ns.map P.int))) ((numsTo 4).map P.int) t .und .und .und .und .und .und .und .und .und .und .und .und .und .und [] (ok.le (by decide))
  have i1 : ∀ δ m, sIt1 (sCons (sC (.int 4)) sNil) δ m = .ok ⟨(numsTo 4).map P.int, fun _ => true⟩ m := fun δ m => it1_nat (x := 4) (by simp) (by decide) (by decide)
  obtain ⟨sp, hsp⟩ : ∃ sp, P.lst (ns.map P.int) = sp := ⟨_, rfl⟩
  rw [hsp] at e1 e2 ⊢
  obtain ⟨NK, hNK⟩ : ∃ NK, (numsTo 4).map P.int = NK := ⟨_, rfl⟩
  rw [hNK] at e2 i1
  obtain ⟨tn, htn⟩ : ∃ tn, kT kB kD kC = tn := ⟨_, rfl⟩
  unfold s_law b_law
  rw [htn] at e2
  simp only [kT, kB, kD, kC] at htn
  rw [htn]
  simp [-e_It1, n_law, List.replicate_succ, e1, i1, e2]
end DL

set_option Elab.async false
set_option linter.all false
set_option maxRecDepth 100000
set_option maxHeartbeats 0
namespace DL
open PySem PySem.Spec PyProof.Rows L2
theorem facts {P : Program} {w : World} {K : PySem.W.Frag} {h : Heap} {mg : Str → Option Value} {f : Addr} (X : K.In h) (G : h.Ns mainGlobals mg) (hfa : mg ("law" : Str) = some (.ref f)) (c : He.SaysD fa fn K) (ce : ex K = true) :
    ∃ fd : FuncData, (∀ (s : Shared) (u : Value), BindsTo s fd ⟨[u], []⟩ [("_law_script", u)]) ∧ ∀ base : Heap, K.In base → base.Ns mainGlobals mg → FnG P w K mg base 21 f fd ["_law_script"] s_law := by
  obtain ⟨fd, F⟩ := c.def_ 41 (d := ⟨("law", none), "law", "law", defArgs (top 72), defBody (top 72), defScope (top 72), [], []⟩) rfl
  have e := hfa.symm.trans (He.glo_ok X G (c.fact 77 (f := .glo "law") rfl))
  cases e
  have b := FunD.bindsA (ps := ["_law_script"]) F fun _ _ _ _ _ _ us hl => match us, hl with | [_], _ => rfl
  exact ⟨fd, fun s v => b s [v] rfl, fun base _ _ => g_law (zf_of X G c ce) F⟩
end DL
open PySem PySem.W PySem.Calls PyProof.Rows
theorem PySem.Challenge.cw_wakebook_k33_whole_more_edges_more_comes_holds : PySem.Challenge.rw_wakebook_k33_whole_more_edges_more_comes.Holds := by
  w_on; o_law
  refine HandSHeadRun.head_any (r := OpenLaw.row DL.lawR) (q := view (OpenLaw.row DL.lawR).prog [72]) (H := DL.hk) (ob := DL.ob) (M := 4000) (loose := DL.looseN) (d := HandSHeadRun.topDef (OpenLaw.row DL.lawR).prog 72) (kwd := []) DL.ob_eq
    (by kernel_rfl) (fun s => by kernel_rfl) DL.runs (by kernel_rfl) (by kernel_rfl) (by kernel_rfl) (by rfl) (by first | assumption | decide +kernel) (by decide +kernel) ⟨rfl, rfl, rfl, rfl, rfl, by decide +kernel⟩ ?hw ?hc
  case hw => w_witness2
  case hc =>
    refine DL.walk_ofG (l := DL.lawR) (n := 63) (k := 21) (x := "_law_script") (S := DL.s_law) rfl (by decide) (by kernel_rfl) ⟨rfl, by decide, by decide⟩ ?F (fun ns h => DL.law_ok ns h)
    intro w mg fa h Y G hmg0
    obtain ⟨K, KX, c⟩ := Y
    have hmg : mg ("law" : PySem.Str) = some (.ref fa) := by
      have e : (HandSHeadRun.topDef (OpenLaw.row DL.lawR).prog 72).name = ("law" : PySem.Str) := by kernel_rfl
      rw [← e]
      exact hmg0
    obtain ⟨fd, hb, hF⟩ := DL.facts (P := DL.lawR.prog) (w := w) KX G hmg c.1 c.2
    have hn : DL.noLists K = true := by
      have z := c.2
      unfold DL.ex at z
      simp only [Bool.and_eq_true] at z
      exact z.1.1.1
    exact ⟨K, fd, KX, hn, hb, hF⟩
