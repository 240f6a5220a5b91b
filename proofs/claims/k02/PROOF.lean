import PyProof.Rows.All
import Wide.All
import OpenK.AllK
import Wide.FinOn
import HandS.ForMost
import HandS.Exc
import HandS.TryOnly
import HandS.ExcOwn
import HandS.WordsExc
import HandS.CallSlots
import HandS.Deep
import HandS.HeadHook1
import HandS.HeadHook2
import KE.KDictKeyed
import KE.SortData
import KE.DataEq
import KE.DataCmp
import KE.DataIsa
import HandS.TupAny
import HandS.TupMul
import HandS.Conv
import HandS.IsInst
import KE.KDictList
import KE.KDictCopyH
import HandS.Iter
import HandS.Zip
import KE.GoesEnum
import HandS.Comp
import HandS.Flow
import HandS.Style
import PyProof.ReprRoads
import HandS.Ends
import HandS.HeadHook4
import HandS.Head2
import PySem.Challenge.RW_wakebook_k02_names_and_edges_of_houses
import KE.KStateDown
import HandS.Head0
import HandS.Head1
import HandS.HeadEnd
set_option Elab.async false
set_option linter.all false
set_option maxRecDepth 100000
/-! The data layer, part a: data, how values stand for data, steps. -/
namespace DL
open PySem PySem.Spec PyProof.Rows L2

/-- plain data: what a Python value tells -/
inductive P where
  | non | bl (b : Bool) | int (i : Int) | str (s : Str) | tup (xs : List P) | lst (xs : List P)
  | dK (ks : List Key) (xs : List P) | dT (ks xs : List P) | obj (C : Str) (ns : List Str) (xs : List P) | exc (C : Str) (ns : List Str) (xs : List P)
instance : Inhabited P := ⟨.non⟩

mutual
def P.beq : P → P → Bool
  | .non, .non => true
  | .bl a, .bl b => a == b
  | .int a, .int b => decide (a = b)
  | .str a, .str b => decide (a = b)
  | .tup a, .tup b => P.beqL a b
  | .lst a, .lst b => P.beqL a b
  | .dK k a, .dK l b => decide (k = l) && P.beqL a b
  | .dT k a, .dT l b => P.beqL k l && P.beqL a b
  | .obj c k a, .obj d l b => decide (c = d) && (decide (k = l) && P.beqL a b)
  | .exc c k a, .exc d l b => decide (c = d) && (decide (k = l) && P.beqL a b)
  | _, _ => false
def P.beqL : List P → List P → Bool
  | [], [] => true
  | a :: as, b :: bs => P.beq a b && P.beqL as bs
  | _, _ => false
end
mutual
theorem P.beq_self : ∀ a : P, P.beq a a = true
  | .non => rfl
  | .bl a => by simp [P.beq]
  | .int a => by simp [P.beq]
  | .str a => by simp [P.beq]
  | .tup a => by rw [P.beq]; exact P.beqL_self a
  | .lst a => by rw [P.beq]; exact P.beqL_self a
  | .dK k a => by rw [P.beq, P.beqL_self a]; simp
  | .dT k a => by rw [P.beq, P.beqL_self k, P.beqL_self a]; rfl
  | .obj c k a => by rw [P.beq, P.beqL_self a]; simp
  | .exc c k a => by rw [P.beq, P.beqL_self a]; simp
theorem P.beqL_self : ∀ a : List P, P.beqL a a = true
  | [] => rfl
  | a :: as => by rw [P.beqL, P.beq_self a, P.beqL_self as]; rfl
end
mutual
theorem P.eq_of_beq : ∀ a b : P, P.beq a b = true → a = b
  | .non, b, h => by cases b <;> first | rfl | simp [P.beq] at h
  | .bl a, b, h => by cases b <;> first | (simp [P.beq] at h; rw [h]) | simp [P.beq] at h
  | .int a, b, h => by cases b <;> first | (simp [P.beq] at h; rw [h]) | simp [P.beq] at h
  | .str a, b, h => by cases b <;> first | (simp [P.beq] at h; rw [h]) | simp [P.beq] at h
  | .tup a, b, h => by cases b <;> first | (rw [P.beq] at h; rw [P.eq_of_beqL a _ h]) | simp [P.beq] at h
  | .lst a, b, h => by cases b <;> first | (rw [P.beq] at h; rw [P.eq_of_beqL a _ h]) | simp [P.beq] at h
  | .dK k a, b, h => by
    cases b <;> first
      | (rw [P.beq, Bool.and_eq_true] at h; rw [of_decide_eq_true h.1, P.eq_of_beqL a _ h.2])
      | simp [P.beq] at h
  | .dT k a, b, h => by
    cases b <;> first
      | (rw [P.beq, Bool.and_eq_true] at h; rw [P.eq_of_beqL k _ h.1, P.eq_of_beqL a _ h.2])
      | simp [P.beq] at h
  | .obj c k a, b, h => by
    cases b <;> first
      | (rw [P.beq, Bool.and_eq_true, Bool.and_eq_true] at h; rw [of_decide_eq_true h.1, of_decide_eq_true h.2.1, P.eq_of_beqL a _ h.2.2])
      | simp [P.beq] at h
  | .exc c k a, b, h => by
    cases b <;> first
      | (rw [P.beq, Bool.and_eq_true, Bool.and_eq_true] at h; rw [of_decide_eq_true h.1, of_decide_eq_true h.2.1, P.eq_of_beqL a _ h.2.2])
      | simp [P.beq] at h
theorem P.eq_of_beqL : ∀ a b : List P, P.beqL a b = true → a = b
  | [], [], _ => rfl
  | [], _ :: _, h => by simp [P.beqL] at h
  | _ :: _, [], h => by simp [P.beqL] at h
  | a :: as, b :: bs, h => by rw [P.beqL, Bool.and_eq_true] at h; rw [P.eq_of_beq a b h.1, P.eq_of_beqL as bs h.2]
end
instance : DecidableEq P := fun a b => if h : P.beq a b = true then .isTrue (P.eq_of_beq a b h) else .isFalse fun e => h (e ▸ P.beq_self a)

/-! ### as the library's data -/
mutual
def P.py : P → PyData
  | .non => .none
  | .bl b => .bool b
  | .int i => .int i
  | .str s => .str s
  | .tup xs => .tuple (P.pyL xs)
  | .lst xs => .list (P.pyL xs)
  | .dK _ _ => .none
  | .dT _ _ => .none
  | .obj _ _ _ => .none
  | .exc _ _ _ => .none
def P.pyL : List P → List PyData
  | [] => []
  | x :: xs => P.py x :: P.pyL xs
end
mutual
/-- no dict, no object within -/
def P.plain : P → Bool
  | .non => true
  | .bl _ => true
  | .int _ => true
  | .str _ => true
  | .tup xs => P.plainL xs
  | .lst xs => P.plainL xs
  | .dK _ _ => false
  | .dT _ _ => false
  | .obj _ _ _ => false
  | .exc _ _ _ => false
def P.plainL : List P → Bool
  | [] => true
  | x :: xs => P.plain x && P.plainL xs
end
theorem P.pyL_eq : ∀ xs : List P, P.pyL xs = xs.map P.py
  | [] => rfl
  | x :: xs => by rw [P.pyL, P.pyL_eq xs]; rfl
theorem P.plainL_eq : ∀ xs : List P, P.plainL xs = xs.all P.plain
  | [] => rfl
  | x :: xs => by rw [P.plainL, P.plainL_eq xs]; rfl

/-! ### as a key of a dict -/
mutual
def P.nk : P → NestedKey
  | .bl b => .num (if b then 1 else 0)
  | .int i => .num i
  | .str s => .text s
  | .tup xs => .tup (P.nkL xs)
  | _ => .none
def P.nkL : List P → List NestedKey
  | [] => []
  | x :: xs => P.nk x :: P.nkL xs
end
mutual
/-- may stand within a key -/
def P.keyed : P → Bool
  | .non => true
  | .bl _ => true
  | .int _ => true
  | .str _ => true
  | .tup xs => P.keyedL xs
  | _ => false
def P.keyedL : List P → Bool
  | [] => true
  | x :: xs => P.keyed x && P.keyedL xs
end

/-! ### the abstract memory -/
/-- what is written to: a list, a dict (int and text keys; tuples as keys), an instance -/
inductive D where
  | p (x : P) | ref (i : Nat) | und
instance : Inhabited D := ⟨.und⟩
inductive MO where
  | lst (xs : List P) | dK (ks : List Key) (xs : List P) | dT (ks xs : List P) | ins (C : Str) (ns : List Str) (xs : List P)
abbrev Mem := List (Option MO)
/-- where the writable objects stand; what is not to be touched for a while -/
structure Io where
  at_ : List (Option Addr)
  hid : List Addr := []
/-- it is nobody's -/
def Io.fre (ι : Io) (a : Addr) : Prop := some a ∉ ι.at_ ∧ a ∉ ι.hid

/-- the program, the world, the written part -/
structure Gx where
  prog : Program
  w : World
  K : PySem.W.Frag
abbrev gx (X : Cx) : Gx := ⟨X.prog, X.w, X.K⟩

/-- it stands at a and is nobody's to write -/
def Own (H : Hp) (ι : Io) (a : Addr) (u : HO) : Prop := H a = some u ∧ ι.fre a
def KTup (K : PySem.W.Frag) (a : Addr) (xs : List V) : Prop := ∃ (o : Obj) (its : Array Value) (n : Nat), K.lookup a = some o ∧ o.cls = .type "tuple" ∧ o.data = .seq its n ∧ its.size ≤ sizeLine ∧ Vals xs its.toList
def StL (K : PySem.W.Frag) (H : Hp) (ι : Io) (a : Addr) (xs : List V) : Prop := Own H ι a (.lst xs) ∨ ∃ o, Own H ι a (.frz o (.lst xs))
def StT (K : PySem.W.Frag) (H : Hp) (ι : Io) (a : Addr) (xs : List V) : Prop := Own H ι a (.tup xs) ∨ KTup K a xs
theorem StL.rd {K : PySem.W.Frag} {H : Hp} {ι : Io} {a : Addr} {xs : List V} (h : StL K H ι a xs) : Rd H a (.lst xs) := by
  rcases h with h | ⟨o, h⟩
  · exact .inl h.1
  · exact .inr ⟨o, h.1⟩
theorem StL.sq {K : PySem.W.Frag} {H : Hp} {ι : Io} {a : Addr} {xs : List V} (h : StL K H ι a xs) : SqL K H a xs := .inl h.rd
theorem StT.sq {K : PySem.W.Frag} {H : Hp} {ι : Io} {a : Addr} {xs : List V} (h : StT K H ι a xs) : SqT K H a xs := by
  rcases h with h | h
  · exact .inl (.inl h.1)
  · exact .inr h
/-- the exact object -/
def ExactO (a : Addr) (o : Obj) : HO := .ext fun h => h.get? a = some o
/-- a dict's object with tuples as keys: its entries -/
structure TabO (G : Gx) (a : Addr) (o : Obj) (ys : List (NestedKey × Addr × Value)) : Prop where
  ex : o.ExactDict
  dat : ∃ es ep, o.data = .dict es ep ∧ es.toList = ys.map (entryOfKey (nestedKind G.prog G.w))
  nd : (ys.map (·.1)).Nodup
  sys : (a == sysModules) = false
  len : ys.length ≤ sizeLine
  dep : ∀ y ∈ ys, y.1.depth ≤ 8
/-- a caught exception's object -/
def XcO (cls : Value) (dx a : Addr) : HO := .ext fun h => ∃ (oe : Obj) (vs : Array Value), h.get? a = some oe ∧ Zc cls (some dx) oe ∧ oe.data = .fields vs

mutual
/-- the value stands for the datum -/
def Rep (G : Gx) (H : Hp) (ι : Io) : P → V → Prop
  | .non, v => v = .non
  | .bl b, v => v = .bl b
  | .int i, v => v = .int i
  | .str s, v => v = .str s
  | .tup xs, v => ∃ a vs, v = .ref a ∧ StT G.K H ι a vs ∧ RepL G H ι xs vs
  | .lst xs, v => ∃ a vs, v = .ref a ∧ StL G.K H ι a vs ∧ RepL G H ι xs vs
  | .dK ks xs, v => ∃ a o vs, v = .ref a ∧ Own H ι a (.frz o (.dK (ks.zip vs))) ∧ ks.length = xs.length ∧ RepL G H ι xs vs
  | .dT ks xs, v => ∃ a o ys vs, v = .ref a ∧ Own H ι a (.frz o (ExactO a o)) ∧ TabO G a o ys ∧ ys.map (·.1) = P.nkL ks ∧ P.keyedL ks = true ∧ RepL G H ι ks (ys.map fun y => V.ref y.2.1) ∧ Vals vs (ys.map fun y => y.2.2) ∧ RepL G H ι xs vs
  | .obj C ns xs, v => ∃ a dx vs, v = .ref a ∧ Own H ι a (.ins (He.ga G.K C) dx (ns.zip vs)) ∧ ns.length = xs.length ∧ RepL G H ι xs vs
  | .exc C ns xs, v => ∃ a dx vs, v = .ref a ∧ Own H ι a (XcO (.ref (He.ga G.K C)) dx a) ∧ Own H ι dx (.xd (ns.zip vs)) ∧ ns.length = xs.length ∧ RepL G H ι xs vs
def RepL (G : Gx) (H : Hp) (ι : Io) : List P → List V → Prop
  | [], vs => vs = []
  | x :: xs, vs => ∃ v r, vs = v :: r ∧ Rep G H ι x v ∧ RepL G H ι xs r
end
/-- a local's value, an argument -/
def RepD (G : Gx) (H : Hp) (ι : Io) : D → V → Prop
  | .p x, v => Rep G H ι x v
  | .ref i, v => ∃ a, v = .ref a ∧ (ι.at_[i]? = some (some a) ∨ ι.at_[i]? = some none)
  | .und, _ => False
def RepDL (G : Gx) (H : Hp) (ι : Io) : List D → List V → Prop
  | [], vs => vs = []
  | d :: ds, vs => ∃ v r, vs = v :: r ∧ RepD G H ι d v ∧ RepDL G H ι ds r

/-- what stands at a writable address -/
def MObj (G : Gx) (H : Hp) (ι : Io) (a : Addr) : MO → Prop
  | .lst xs => ∃ vs, H a = some (.lst vs) ∧ RepL G H ι xs vs
  | .dK ks xs => ∃ vs, H a = some (.dK (ks.zip vs)) ∧ ks.length = xs.length ∧ RepL G H ι xs vs
  | .dT ks xs => ∃ o ys vs, H a = some (ExactO a o) ∧ TabO G a o ys ∧ ys.map (·.1) = P.nkL ks ∧ P.keyedL ks = true ∧ RepL G H ι ks (ys.map fun y => V.ref y.2.1) ∧ Vals vs (ys.map fun y => y.2.2) ∧ RepL G H ι xs vs
  | .ins C ns xs => ∃ dx vs, H a = some (.ins (He.ga G.K C) dx (ns.zip vs)) ∧ ns.length = xs.length ∧ RepL G H ι xs vs
structure MRel (G : Gx) (H : Hp) (ι : Io) (m : Mem) : Prop where
  len : ι.at_.length = m.length
  inj : ∀ (i j : Nat) (a : Addr), ι.at_[i]? = some (some a) → ι.at_[j]? = some (some a) → i = j
  obj : ∀ (i : Nat) (a : Addr), ι.at_[i]? = some (some a) → ∃ o, m[i]? = some (some o) ∧ MObj G H ι a o
  gon : ∀ (i : Nat), ι.at_[i]? = some none → m[i]? = some none
  hid : ∀ a, a ∈ ι.hid → (∃ u, H a = some u) ∧ some a ∉ ι.at_
/-- the locals -/
abbrev DS := List D
structure SRel (G : Gx) (H : Hp) (ι : Io) (σ : L2.St) (δ : DS) : Prop where
  len : σ.length = δ.length
  at_ : ∀ (i : Nat) (d : D), δ[i]? = some d → d ≠ .und → ∃ v, σ[i]? = some (some v) ∧ RepD G H ι d v

def NoTbl (o : HO) : Prop := ∀ ps, o ≠ .tbl ps
/-- from one heap to a later one -/
structure Step (ι : Io) (H : Hp) (ι' : Io) (H' : Hp) : Prop where
  len : ι.at_.length ≤ ι'.at_.length
  pre : ∀ (i : Nat) (o : Option Addr), ι'.at_[i]? = some o → i < ι.at_.length → ι.at_[i]? = some o ∨ o = none
  keep : ∀ b o, H b = some o → some b ∉ ι.at_ → NoTbl o → H' b = some o
  new : ∀ b, some b ∈ ι'.at_ → some b ∉ ι.at_ → H b = none
  tbl : ∀ b ps, H b = some (.tbl ps) → ∃ more, H' b = some (.tbl (ps ++ more))
  hid : ι'.hid = ι.hid
theorem Step.refl (ι : Io) (H : Hp) : Step ι H ι H where
  len := Nat.le_refl _
  pre := fun i o h _ => .inl h
  keep := fun _ _ h _ _ => h
  new := fun b h n => absurd h n
  tbl := fun b ps h => ⟨#[], by simpa using h⟩
  hid := rfl
theorem Step.keepA {ι ι' : Io} {H H' : Hp} (s : Step ι H ι' H') {b : Addr} {o : HO} (h : H b = some o) (n : some b ∉ ι.at_) (nt : NoTbl o) : H' b = some o ∧ some b ∉ ι'.at_ :=
  ⟨s.keep b o h n nt, fun z => by rw [s.new b z n] at h; cases h⟩
theorem Step.keepN {ι ι' : Io} {H H' : Hp} (s : Step ι H ι' H') {b : Addr} {o : HO} (h : H b = some o) (n : ι.fre b) (nt : NoTbl o) : H' b = some o ∧ ι'.fre b :=
  let ⟨h1, h2⟩ := s.keepA h n.1 nt; ⟨h1, h2, by rw [s.hid]; exact n.2⟩
theorem Step.some_of {ι ι' : Io} {H H' : Hp} (s : Step ι H ι' H') {b : Addr} {o : HO} (h : H b = some o) (n : some b ∉ ι.at_) : ∃ o', H' b = some o' := by
  by_cases nt : NoTbl o
  · exact ⟨o, s.keep b o h n nt⟩
  · unfold NoTbl at nt
    have : ∃ ps, o = .tbl ps := by
      cases o <;> first | exact ⟨_, rfl⟩ | exact absurd (fun ps z => by cases z) nt
    obtain ⟨ps, rfl⟩ := this
    obtain ⟨more, e⟩ := s.tbl b ps h
    exact ⟨_, e⟩
theorem Step.trans {ι ι1 ι2 : Io} {H H1 H2 : Hp} (a : Step ι H ι1 H1) (b : Step ι1 H1 ι2 H2) : Step ι H ι2 H2 where
  len := Nat.le_trans a.len b.len
  pre := fun i o h l => by
    rcases b.pre i o h (Nat.lt_of_lt_of_le l a.len) with q | q
    · exact a.pre i o q l
    · exact .inr q
  keep := fun c o h n nt => by
    obtain ⟨h1, n1⟩ := a.keepA h n nt
    exact b.keep c o h1 n1 nt
  new := fun c h n => by
    by_cases q : some c ∈ ι1.at_
    · exact a.new c q n
    · have z := b.new c h q
      cases e : H c with
      | none => rfl
      | some o =>
        obtain ⟨o', e'⟩ := a.some_of e n
        rw [z] at e'; cases e'
  tbl := fun c ps h => by
    obtain ⟨m1, e1⟩ := a.tbl c ps h
    obtain ⟨m2, e2⟩ := b.tbl c _ e1
    exact ⟨m1 ++ m2, by rw [e2, Array.append_assoc]⟩
  hid := b.hid.trans a.hid

section
variable {G : Gx} {ι ι' : Io} {H H' : Hp}
/-- what is nobody's stays -/
structure Mw (ι : Io) (H : Hp) (ι' : Io) (H' : Hp) : Prop where
  own : ∀ a u, Own H ι a u → NoTbl u → Own H' ι' a u
/-- what keeps every reading: all that is nobody's stays -/
structure Mv (ι : Io) (H : Hp) (ι' : Io) (H' : Hp) : Prop extends Mw ι H ι' H' where
  len : ι.at_.length ≤ ι'.at_.length
  pre : ∀ (i : Nat) (o : Option Addr), ι'.at_[i]? = some o → i < ι.at_.length → ι.at_[i]? = some o ∨ o = none
theorem Step.mv (s : Step ι H ι' H') : Mv ι H ι' H' := ⟨⟨fun a u h nt => s.keepN h.1 h.2 nt⟩, s.len, s.pre⟩
theorem Mv.trans {ι1 : Io} {H1 : Hp} (a : Mv ι H ι1 H1) (b : Mv ι1 H1 ι' H') : Mv ι H ι' H' := ⟨⟨fun c u h nt => b.own c u (a.own c u h nt) nt⟩, Nat.le_trans a.len b.len, fun i o h l => by
  rcases b.pre i o h (Nat.lt_of_lt_of_le l a.len) with q | q
  · exact a.pre i o q l
  · exact .inr q⟩
theorem Own.mw (s : Mw ι H ι' H') {a : Addr} {u : HO} (h : Own H ι a u) (nt : NoTbl u) : Own H' ι' a u := s.own a u h nt
theorem StL.mw {K : PySem.W.Frag} (s : Mw ι H ι' H') {a : Addr} {xs : List V} (h : StL K H ι a xs) : StL K H' ι' a xs := by
  rcases h with h | ⟨o, h⟩
  · exact .inl (h.mw s fun ps z => by cases z)
  · exact .inr ⟨o, h.mw s fun ps z => by cases z⟩
theorem StT.mw {K : PySem.W.Frag} (s : Mw ι H ι' H') {a : Addr} {xs : List V} (h : StT K H ι a xs) : StT K H' ι' a xs := by
  rcases h with h | h
  · exact .inl (h.mw s fun ps z => by cases z)
  · exact .inr h
mutual
theorem Rep.mw (s : Mw ι H ι' H') : ∀ (x : P) (v : V), Rep G H ι x v → Rep G H' ι' x v
  | .non, v, h => h
  | .bl _, v, h => h
  | .int _, v, h => h
  | .str _, v, h => h
  | .tup xs, v, h => by
    simp only [Rep] at h ⊢
    obtain ⟨a, vs, e, t, r⟩ := h
    exact ⟨a, vs, e, t.mw s, RepL.mw s xs vs r⟩
  | .lst xs, v, h => by
    simp only [Rep] at h ⊢
    obtain ⟨a, vs, e, t, r⟩ := h
    exact ⟨a, vs, e, t.mw s, RepL.mw s xs vs r⟩
  | .dK ks xs, v, h => by
    simp only [Rep] at h ⊢
    obtain ⟨a, o, vs, e, t, l, r⟩ := h
    exact ⟨a, o, vs, e, t.mw s (fun ps z => by cases z), l, RepL.mw s xs vs r⟩
  | .dT ks xs, v, h => by
    simp only [Rep] at h ⊢
    obtain ⟨a, o, ys, vs, e, t, tb, e1, e2, r1, q, r2⟩ := h
    exact ⟨a, o, ys, vs, e, t.mw s (fun ps z => by cases z), tb, e1, e2, RepL.mw s ks _ r1, q, RepL.mw s xs vs r2⟩
  | .obj C ns xs, v, h => by
    simp only [Rep] at h ⊢
    obtain ⟨a, dx, vs, e, t, l, r⟩ := h
    exact ⟨a, dx, vs, e, t.mw s (fun ps z => by cases z), l, RepL.mw s xs vs r⟩
  | .exc C ns xs, v, h => by
    simp only [Rep] at h ⊢
    obtain ⟨a, dx, vs, e, t, t2, l, r⟩ := h
    exact ⟨a, dx, vs, e, t.mw s (fun ps z => by cases z), t2.mw s (fun ps z => by cases z), l, RepL.mw s xs vs r⟩
theorem RepL.mw (s : Mw ι H ι' H') : ∀ (xs : List P) (vs : List V), RepL G H ι xs vs → RepL G H' ι' xs vs
  | [], vs, h => by simp only [RepL] at h ⊢; exact h
  | x :: xs, vs, h => by
    simp only [RepL] at h ⊢
    obtain ⟨v, r, e, h1, h2⟩ := h
    exact ⟨v, r, e, Rep.mw s x v h1, RepL.mw s xs r h2⟩
end
theorem Own.mv (s : Mv ι H ι' H') {a : Addr} {u : HO} (h : Own H ι a u) (nt : NoTbl u) : Own H' ι' a u := h.mw s.toMw nt
theorem StL.mv {K : PySem.W.Frag} (s : Mv ι H ι' H') {a : Addr} {xs : List V} (h : StL K H ι a xs) : StL K H' ι' a xs := h.mw s.toMw
theorem StT.mv {K : PySem.W.Frag} (s : Mv ι H ι' H') {a : Addr} {xs : List V} (h : StT K H ι a xs) : StT K H' ι' a xs := h.mw s.toMw
theorem Rep.mv (s : Mv ι H ι' H') (x : P) (v : V) (h : Rep G H ι x v) : Rep G H' ι' x v := Rep.mw s.toMw x v h
theorem RepL.mv (s : Mv ι H ι' H') (xs : List P) (vs : List V) (h : RepL G H ι xs vs) : RepL G H' ι' xs vs := RepL.mw s.toMw xs vs h
theorem RepD.mv (s : Mv ι H ι' H') : ∀ {d : D} {v : V}, RepD G H ι d v → RepD G H' ι' d v
  | .p x, v, h => Rep.mv s x v h
  | .ref i, v, h => by
    obtain ⟨a, e, h⟩ := h
    refine ⟨a, e, ?_⟩
    have hl : i < ι.at_.length := by
      rcases h with h | h <;> exact (List.getElem?_eq_some_iff.mp h).1
    have hl' : i < ι'.at_.length := Nat.lt_of_lt_of_le hl s.len
    have q := s.pre i ι'.at_[i] (List.getElem?_eq_getElem hl') hl
    rw [List.getElem?_eq_getElem hl']
    rcases q with q | q
    · rcases h with h | h
      · rw [h] at q; exact .inl q.symm
      · rw [h] at q; exact .inr q.symm
    · exact .inr (by rw [q])
  | .und, v, h => h
theorem RepDL.mv (s : Mv ι H ι' H') : ∀ {ds : List D} {vs : List V}, RepDL G H ι ds vs → RepDL G H' ι' ds vs
  | [], _, h => h
  | _ :: _, _, h => by
    obtain ⟨v, r, e, h1, h2⟩ := h
    exact ⟨v, r, e, h1.mv s, RepDL.mv s h2⟩
theorem SRel.mv (s : Mv ι H ι' H') {σ : L2.St} {δ : DS} (h : SRel G H ι σ δ) : SRel G H' ι' σ δ :=
  ⟨h.len, fun i d e n => let ⟨v, a, r⟩ := h.at_ i d e n; ⟨v, a, r.mv s⟩⟩

theorem Own.step (s : Step ι H ι' H') {a : Addr} {u : HO} (h : Own H ι a u) (nt : NoTbl u) : Own H' ι' a u := h.mv s.mv nt
theorem StL.step {K : PySem.W.Frag} (s : Step ι H ι' H') {a : Addr} {xs : List V} (h : StL K H ι a xs) : StL K H' ι' a xs := h.mv s.mv
theorem StT.step {K : PySem.W.Frag} (s : Step ι H ι' H') {a : Addr} {xs : List V} (h : StT K H ι a xs) : StT K H' ι' a xs := h.mv s.mv
theorem Rep.step (s : Step ι H ι' H') (x : P) (v : V) (h : Rep G H ι x v) : Rep G H' ι' x v := Rep.mv s.mv x v h
theorem RepL.step (s : Step ι H ι' H') (xs : List P) (vs : List V) (h : RepL G H ι xs vs) : RepL G H' ι' xs vs := RepL.mv s.mv xs vs h
theorem RepD.step (s : Step ι H ι' H') {d : D} {v : V} (h : RepD G H ι d v) : RepD G H' ι' d v := h.mv s.mv
theorem RepDL.step (s : Step ι H ι' H') {ds : List D} {vs : List V} (h : RepDL G H ι ds vs) : RepDL G H' ι' ds vs := h.mv s.mv
theorem SRel.step (s : Step ι H ι' H') {σ : L2.St} {δ : DS} (h : SRel G H ι σ δ) : SRel G H' ι' σ δ := h.mv s.mv
/-- an object is hidden, changed, told again -/
def Io.hide (ι : Io) (p : Addr) : Io := ⟨ι.at_, p :: ι.hid⟩
theorem Mv.hide {p : Addr} {u : HO} (hp : H p = none) : Mv ι H (ι.hide p) (upd H p u) := ⟨⟨fun a w h nt => by
  have n : a ≠ p := ne_of_none h.1 hp
  exact ⟨by rw [upd_ne n]; exact h.1, h.2.1, fun z => (List.mem_cons.mp z).elim n h.2.2⟩⟩, Nat.le_refl _, fun i o h _ => .inl h⟩
theorem Mv.hidden {p : Addr} {u : HO} (hp : p ∈ ι.hid) : Mv ι H ι (upd H p u) := ⟨⟨fun a w h nt => by
  have n : a ≠ p := fun z => h.2.2 (by rw [z]; exact hp)
  exact ⟨by rw [upd_ne n]; exact h.1, h.2⟩⟩, Nat.le_refl _, fun i o h _ => .inl h⟩
theorem Mv.show_ {p : Addr} {l : List Addr} : Mv ⟨ι.at_, p :: l⟩ H ⟨ι.at_, l⟩ H := ⟨⟨fun a w h nt => ⟨h.1, h.2.1, fun z => h.2.2 (List.mem_cons_of_mem _ z)⟩⟩, Nat.le_refl _, fun i o h _ => .inl h⟩
/-! ### lists of values -/
theorem RepL.cons {x : P} {xs : List P} {v : V} {vs : List V} (h : Rep G H ι x v) (t : RepL G H ι xs vs) : RepL G H ι (x :: xs) (v :: vs) := by
  simp only [RepL]; exact ⟨v, vs, rfl, h, t⟩
theorem RepL.nil : RepL G H ι [] [] := by simp only [RepL]
theorem RepL.length : ∀ {xs : List P} {vs : List V}, RepL G H ι xs vs → xs.length = vs.length
  | [], vs, h => by simp only [RepL] at h; rw [h]; rfl
  | x :: xs, vs, h => by
    simp only [RepL] at h
    obtain ⟨v, r, e, _, h2⟩ := h
    rw [e, List.length_cons, List.length_cons, RepL.length h2]
theorem RepL.get : ∀ {xs : List P} {vs : List V} {i : Nat} {x : P}, RepL G H ι xs vs → xs[i]? = some x → ∃ v, vs[i]? = some v ∧ Rep G H ι x v
  | [], vs, i, x, h, e => by simp at e
  | y :: xs, vs, i, x, h, e => by
    simp only [RepL] at h
    obtain ⟨v, r, e1, h1, h2⟩ := h
    subst e1
    cases i with
    | zero => simp at e; subst e; exact ⟨v, rfl, h1⟩
    | succ i =>
      obtain ⟨u, a, b⟩ := RepL.get (i := i) (x := x) h2 (by simpa using e)
      exact ⟨u, by simpa using a, b⟩
theorem RepL.getV : ∀ {xs : List P} {vs : List V} {i : Nat} {v : V}, RepL G H ι xs vs → vs[i]? = some v → ∃ x, xs[i]? = some x ∧ Rep G H ι x v := fun {xs vs i v} h e => by
  have hl : i < xs.length := by rw [h.length]; exact (List.getElem?_eq_some_iff.mp e).1
  obtain ⟨u, a, b⟩ := h.get (List.getElem?_eq_getElem hl)
  rw [e] at a; cases a
  exact ⟨_, List.getElem?_eq_getElem hl, b⟩
theorem RepL.append : ∀ {xs ys : List P} {vs ws : List V}, RepL G H ι xs vs → RepL G H ι ys ws → RepL G H ι (xs ++ ys) (vs ++ ws)
  | [], ys, vs, ws, h, t => by simp only [RepL] at h; subst h; exact t
  | x :: xs, ys, vs, ws, h, t => by
    simp only [RepL] at h
    obtain ⟨v, r, e, h1, h2⟩ := h
    subst e
    exact .cons h1 (RepL.append h2 t)
theorem RepL.take : ∀ {xs : List P} {vs : List V} (n : Nat), RepL G H ι xs vs → RepL G H ι (xs.take n) (vs.take n)
  | xs, vs, 0, h => by simp [RepL]
  | [], vs, n + 1, h => by simp only [RepL] at h; subst h; simp [RepL]
  | x :: xs, vs, n + 1, h => by
    simp only [RepL] at h
    obtain ⟨v, r, e, h1, h2⟩ := h
    subst e
    exact .cons h1 (RepL.take n h2)
theorem RepL.drop : ∀ {xs : List P} {vs : List V} (n : Nat), RepL G H ι xs vs → RepL G H ι (xs.drop n) (vs.drop n)
  | xs, vs, 0, h => h
  | [], vs, n + 1, h => by simp only [RepL] at h; subst h; simp [RepL]
  | x :: xs, vs, n + 1, h => by
    simp only [RepL] at h
    obtain ⟨v, r, e, h1, h2⟩ := h
    subst e
    exact RepL.drop n h2
theorem RepL.set {x : P} {v : V} (hx : Rep G H ι x v) : ∀ {xs : List P} {vs : List V} (i : Nat), RepL G H ι xs vs → RepL G H ι (xs.set i x) (vs.set i v)
  | [], vs, i, h => by simp only [RepL] at h; subst h; simp [RepL]
  | y :: xs, vs, i, h => by
    simp only [RepL] at h
    obtain ⟨u, r, e, h1, h2⟩ := h
    subst e
    cases i with
    | zero => exact .cons hx h2
    | succ i => exact .cons h1 (RepL.set hx i h2)
theorem RepL.eraseIdx : ∀ {xs : List P} {vs : List V} (i : Nat), RepL G H ι xs vs → RepL G H ι (xs.eraseIdx i) (vs.eraseIdx i)
  | [], vs, i, h => by simp only [RepL] at h; subst h; simp [RepL]
  | y :: xs, vs, i, h => by
    simp only [RepL] at h
    obtain ⟨u, r, e, h1, h2⟩ := h
    subst e
    cases i with
    | zero => exact h2
    | succ i => exact .cons h1 (RepL.eraseIdx i h2)
theorem RepDL.cons {d : D} {ds : List D} {v : V} {vs : List V} (h : RepD G H ι d v) (t : RepDL G H ι ds vs) : RepDL G H ι (d :: ds) (v :: vs) := ⟨v, vs, rfl, h, t⟩
theorem RepDL.length : ∀ {ds : List D} {vs : List V}, RepDL G H ι ds vs → ds.length = vs.length
  | [], vs, h => by rw [show vs = [] from h]; rfl
  | d :: ds, vs, h => by
    obtain ⟨v, r, e, _, h2⟩ := h
    rw [e, List.length_cons, List.length_cons, RepDL.length h2]
theorem RepDL.get : ∀ {ds : List D} {vs : List V} {i : Nat} {d : D}, RepDL G H ι ds vs → ds[i]? = some d → ∃ v, vs[i]? = some v ∧ RepD G H ι d v
  | [], vs, i, d, h, e => by simp at e
  | y :: ds, vs, i, d, h, e => by
    obtain ⟨v, r, e1, h1, h2⟩ := h
    subst e1
    cases i with
    | zero => simp at e; subst e; exact ⟨v, rfl, h1⟩
    | succ i =>
      obtain ⟨u, a, b⟩ := RepDL.get (i := i) (d := d) h2 (by simpa using e)
      exact ⟨u, by simpa using a, b⟩
theorem RepDL.set {d : D} {v : V} (hx : RepD G H ι d v) : ∀ {ds : List D} {vs : List V} (i : Nat), RepDL G H ι ds vs → RepDL G H ι (ds.set i d) (vs.set i v)
  | [], vs, i, h => by rw [show vs = [] from h]; exact rfl
  | y :: ds, vs, i, h => by
    obtain ⟨u, r, e, h1, h2⟩ := h
    subst e
    cases i with
    | zero => exact .cons hx h2
    | succ i => exact .cons h1 (RepDL.set hx i h2)
/-- one value stands for one datum's list -/
theorem RepL.one {x : P} {v : V} (h : Rep G H ι x v) : RepL G H ι [x] [v] := .cons h .nil
end
end DL

set_option Elab.async false
set_option linter.all false
set_option maxRecDepth 100000
/-! The data layer, part b: results, expressions. -/
namespace DL
open PySem PySem.Spec PyProof.Rows L2

/-! ### results -/
inductive ER (α : Type) where
  | ok (a : α) (m : Mem) | ex (x : P) (m : Mem) | bad
def ER.bind {α β : Type} (r : ER α) (f : α → Mem → ER β) : ER β := match r with
  | .ok a m => f a m
  | .ex x m => .ex x m
  | .bad => .bad
@[simp] theorem ER.bind_ok {α β : Type} (a : α) (m : Mem) (f : α → Mem → ER β) : (ER.ok a m).bind f = f a m := rfl
@[simp] theorem ER.bind_ex {α β : Type} (x : P) (m : Mem) (f : α → Mem → ER β) : (ER.ex x m : ER α).bind f = .ex x m := rfl
@[simp] theorem ER.bind_bad {α β : Type} (f : α → Mem → ER β) : (ER.bad : ER α).bind f = .bad := rfl
/-- behind a statement -/
inductive SR where
  | nx (δ : DS) (m : Mem) | rt (d : D) (m : Mem) | bk (δ : DS) (m : Mem) | ct (δ : DS) (m : Mem) | ex (x : P) (δ : DS) (m : Mem) | bad
abbrev FE := DS → Mem → ER D
abbrev FB := DS → Mem → ER Bool
abbrev FA := DS → Mem → ER (List D)
abbrev FS := DS → Mem → SR

/-- how an exception stands for its datum -/
def XRep (G : Gx) (H : Hp) (ι : Io) (x : P) (c : Value) (dd : Option Addr) : Prop :=
  ∃ C ns xs, x = .exc C ns xs ∧ c = .ref (He.ga G.K C) ∧ ((dd = none ∧ ns = [] ∧ xs = []) ∨ ∃ dx vs, dd = some dx ∧ Own H ι dx (.xd (ns.zip vs)) ∧ ns.length = xs.length ∧ RepL G H ι xs vs)
/-- what is wanted of a result -/
def ERP (G : Gx) (W : WX) (σ : L2.St) (ι : Io) (H : Hp) {α β : Type} (rel : Hp → Io → α → β → Prop) (r : ER α) (Q : β → Hp → Prop) : Prop :=
  match r with
  | .ok a m => ∀ v H' ι', Step ι H ι' H' → MRel G H' ι' m → rel H' ι' a v → Q v H'
  | .ex x m => ∀ c dd H' ι', Step ι H ι' H' → MRel G H' ι' m → XRep G H' ι' x c dd → W c dd σ H'
  | .bad => False
section
variable {G : Gx} {W : WX} {σ : L2.St} {ι ι1 : Io} {H H1 : Hp} {α β γ ε : Type} {rel : Hp → Io → α → β → Prop} {rel' : Hp → Io → γ → ε → Prop}
theorem ERP.step (s : Step ι H ι1 H1) {r : ER α} {Q : β → Hp → Prop} (h : ERP G W σ ι H rel r Q) : ERP G W σ ι1 H1 rel r Q := by
  cases r with
  | ok a m => exact fun v H' ι' s' => h v H' ι' (s.trans s')
  | ex x m => exact fun c dd H' ι' s' => h c dd H' ι' (s.trans s')
  | bad => exact h
theorem ERP.seq {r : ER α} {g : α → Mem → ER γ} {Q : ε → Hp → Prop} {Q1 : β → Hp → Prop} (h : ERP G W σ ι H rel' (r.bind g) Q)
    (k : ∀ a m1 v H1 ι1, r = .ok a m1 → Step ι H ι1 H1 → MRel G H1 ι1 m1 → rel H1 ι1 a v → ERP G W σ ι1 H1 rel' (g a m1) Q → Q1 v H1) : ERP G W σ ι H rel r Q1 := by
  cases r with
  | ok a m => exact fun v H' ι' s mr rr => k a m v H' ι' rfl s mr rr (h.step s)
  | ex x m => exact h
  | bad => exact h
theorem ERP.imp {r : ER α} {Q Q1 : β → Hp → Prop} (h : ERP G W σ ι H rel r Q) (k : ∀ v H', Q v H' → Q1 v H') : ERP G W σ ι H rel r Q1 := by
  cases r with
  | ok a m => exact fun v H' ι' s mr rr => k _ _ (h v H' ι' s mr rr)
  | ex x m => exact h
  | bad => exact h
end

/-! ### the readings -/
def tD (X : Cx) (W : WX) (f : FE) : TE := fun σ H Q => ∃ δ m ι, SRel (gx X) H ι σ δ ∧ MRel (gx X) H ι m ∧ ERP (gx X) W σ ι H (fun H ι => RepD (gx X) H ι) (f δ m) Q
def tDB (X : Cx) (W : WX) (f : FB) : TT := fun σ H Q => ∃ δ m ι, SRel (gx X) H ι σ δ ∧ MRel (gx X) H ι m ∧ ERP (gx X) W σ ι H (fun _ _ (b : Bool) b' => b = b') (f δ m) Q
def tDA (X : Cx) (W : WX) (f : FA) : TA := fun σ H Q => ∃ δ m ι, SRel (gx X) H ι σ δ ∧ MRel (gx X) H ι m ∧ ERP (gx X) W σ ι H (fun H ι => RepDL (gx X) H ι) (f δ m) Q
def SRP (G : Gx) (W : WX) (ι : Io) (H : Hp) (r : SR) (E : Ends) : Prop :=
  match r with
  | .nx δ m => ∀ σ' H' ι', Step ι H ι' H' → MRel G H' ι' m → SRel G H' ι' σ' δ → E.nx σ' H'
  | .rt d m => ∀ v H' ι', Step ι H ι' H' → MRel G H' ι' m → RepD G H' ι' d v → E.rt v H'
  | .bk δ m => ∀ σ' H' ι', Step ι H ι' H' → MRel G H' ι' m → SRel G H' ι' σ' δ → E.bk σ' H'
  | .ct δ m => ∀ σ' H' ι', Step ι H ι' H' → MRel G H' ι' m → SRel G H' ι' σ' δ → E.ct σ' H'
  | .ex x δ m => ∀ c dd σ' H' ι', Step ι H ι' H' → MRel G H' ι' m → SRel G H' ι' σ' δ → XRep G H' ι' x c dd → W c dd σ' H'
  | .bad => False
theorem SRP.step {G : Gx} {W : WX} {ι ι1 : Io} {H H1 : Hp} (s : Step ι H ι1 H1) {r : SR} {E : Ends} (h : SRP G W ι H r E) : SRP G W ι1 H1 r E := by
  cases r with
  | nx δ m => exact fun σ' H' ι' s' => h σ' H' ι' (s.trans s')
  | rt d m => exact fun v H' ι' s' => h v H' ι' (s.trans s')
  | bk δ m => exact fun σ' H' ι' s' => h σ' H' ι' (s.trans s')
  | ct δ m => exact fun σ' H' ι' s' => h σ' H' ι' (s.trans s')
  | ex x δ m => exact fun c dd σ' H' ι' s' => h c dd σ' H' ι' (s.trans s')
  | bad => exact h
def tDS (X : Cx) (W : WX) (f : FS) : TS := fun E σ H => ∃ δ m ι, SRel (gx X) H ι σ δ ∧ MRel (gx X) H ι m ∧ SRP (gx X) W ι H (f δ m) E
abbrev DE (X : Cx) (W : WX) (e : Expr) (f : FE) : Prop := PE X e (tD X W f)
abbrev DB (X : Cx) (W : WX) (e : Expr) (f : FB) : Prop := PT X e (tDB X W f)
abbrev DWB (X : Cx) (W : WX) (e : Expr) (f : FB) : Prop := PW X e (tDB X W f)
abbrev DA (X : Cx) (W : WX) (es : List Expr) (f : FA) : Prop := PA X es (tDA X W f)
abbrev DT (X : Cx) (W : WX) (st : Stmt) (f : FS) : Prop := PS X st (tDS X W f)
abbrev DTs (X : Cx) (W : WX) (st : List Stmt) (f : FS) : Prop := PSs X st (tDS X W f)
theorem _root_.L2.PE.conv {X : Cx} {e : Expr} {t t' : TE} (h : PE X e t) (k : ∀ σ H Q, t' σ H Q → t σ H Q) : PE X e t' := ⟨fun pins s σ H Q I q => h.run pins s σ H Q I (k σ H Q q)⟩
theorem _root_.L2.PT.conv {X : Cx} {e : Expr} {t t' : TT} (h : PT X e t) (k : ∀ σ H Q, t' σ H Q → t σ H Q) : PT X e t' := ⟨fun pins s σ H Q I q => h.run pins s σ H Q I (k σ H Q q)⟩
theorem _root_.L2.PW.conv {X : Cx} {e : Expr} {t t' : TT} (h : PW X e t) (k : ∀ σ H Q, t' σ H Q → t σ H Q) : PW X e t' := ⟨fun w pins s σ H Q I q => h.run w pins s σ H Q I (k σ H Q q)⟩
theorem _root_.L2.PA.conv {X : Cx} {e : List Expr} {t t' : TA} (h : PA X e t) (k : ∀ σ H Q, t' σ H Q → t σ H Q) : PA X e t' := ⟨fun p pins s σ H Q I q => h.run p pins s σ H Q I (k σ H Q q)⟩
theorem _root_.L2.PS.conv {X : Cx} {e : Stmt} {t t' : TS} (h : PS X e t) (k : ∀ E σ H, t' E σ H → t E σ H) : PS X e t' := ⟨fun pins s σ H E I q => h.run pins s σ H E I (k E σ H q)⟩
theorem _root_.L2.PSs.conv {X : Cx} {e : List Stmt} {t t' : TS} (h : PSs X e t) (k : ∀ E σ H, t' E σ H → t E σ H) : PSs X e t' := ⟨fun pins s σ H E I q => h.run pins s σ H E I (k E σ H q)⟩

/-! ### what only grows -/
theorem Step.same {ι : Io} {H H' : Hp} (e : Same H H') : Step ι H ι H' where
  len := Nat.le_refl _
  pre := fun i o h _ => .inl h
  keep := fun b o h _ _ => e b o h
  new := fun b h n => absurd h n
  tbl := fun b ps h => ⟨#[], by rw [e b _ h]; simp⟩
  hid := rfl
theorem MObj.toM {G : Gx} {H H' : Hp} {ι ι' : Io} (s : Mv ι H ι' H') {a : Addr} {o : MO} (k : H' a = H a) (h : MObj G H ι a o) : MObj G H' ι' a o := by
  cases o with
  | lst xs => obtain ⟨vs, e, r⟩ := h; exact ⟨vs, by rw [k]; exact e, RepL.mv s _ _ r⟩
  | dK ks xs => obtain ⟨vs, e, l, r⟩ := h; exact ⟨vs, by rw [k]; exact e, l, RepL.mv s _ _ r⟩
  | dT ks xs => obtain ⟨o, ys, vs, e, t, e1, e2, r1, q, r2⟩ := h; exact ⟨o, ys, vs, by rw [k]; exact e, t, e1, e2, RepL.mv s _ _ r1, q, RepL.mv s _ _ r2⟩
  | ins C ns ds => obtain ⟨dx, vs, e, l, r⟩ := h; exact ⟨dx, vs, by rw [k]; exact e, l, RepL.mv s _ _ r⟩
theorem MObj.to {G : Gx} {H H' : Hp} {ι ι' : Io} (s : Step ι H ι' H') {a : Addr} {o : MO} (k : H' a = H a) (h : MObj G H ι a o) : MObj G H' ι' a o := h.toM s.mv k
theorem MObj.some_ {G : Gx} {H : Hp} {ι : Io} {a : Addr} {o : MO} (h : MObj G H ι a o) : ∃ u, H a = some u := by
  cases o with
  | lst xs => obtain ⟨vs, e, _⟩ := h; exact ⟨_, e⟩
  | dK ks xs => obtain ⟨vs, e, _⟩ := h; exact ⟨_, e⟩
  | dT ks xs => obtain ⟨o, ys, vs, e, _⟩ := h; exact ⟨_, e⟩
  | ins C ns ds => obtain ⟨dx, vs, e, _⟩ := h; exact ⟨_, e⟩
theorem MRel.same {G : Gx} {H H' : Hp} {ι : Io} {m : Mem} (r : MRel G H ι m) (e : Same H H') : MRel G H' ι m :=
  ⟨r.len, r.inj, fun i a h => let ⟨o, q, ob⟩ := r.obj i a h; let ⟨u, hu⟩ := ob.some_; ⟨o, q, ob.to (.same e) (by rw [hu]; exact e a u hu)⟩, r.gon, fun a h => let ⟨⟨u, hu⟩, n⟩ := r.hid a h; ⟨⟨u, e a u hu⟩, n⟩⟩
theorem Same.upd {H : Hp} {p : Addr} {o : HO} (h : H p = none) : Same H (upd H p o) := fun b u e => by
  rw [upd_ne (ne_of_none e h)]
  exact e
theorem MRel.fresh {G : Gx} {H : Hp} {ι : Io} {m : Mem} (r : MRel G H ι m) {p : Addr} (h : H p = none) : ι.fre p := by
  refine ⟨fun z => ?_, fun z => ?_⟩
  · obtain ⟨i, hi, e⟩ := List.mem_iff_getElem.mp z
    obtain ⟨o, _, ob⟩ := r.obj i p (by rw [List.getElem?_eq_getElem hi, e])
    obtain ⟨u, hu⟩ := ob.some_
    rw [h] at hu; cases hu
  · obtain ⟨⟨u, hu⟩, _⟩ := r.hid p z
    rw [h] at hu; cases hu

/-! ### the datum at hand -/
/-- as Rep, of what may still be written to -/
def Rn (G : Gx) (H : Hp) (ι : Io) : P → V → Prop
  | .lst xs, v => ∃ a vs, v = .ref a ∧ Rd H a (.lst vs) ∧ RepL G H ι xs vs
  | .dK ks xs, v => ∃ a vs, v = .ref a ∧ Rd H a (.dK (ks.zip vs)) ∧ ks.length = xs.length ∧ RepL G H ι xs vs
  | .dT ks xs, v => ∃ a o ys vs, v = .ref a ∧ Rd H a (ExactO a o) ∧ TabO G a o ys ∧ ys.map (·.1) = P.nkL ks ∧ P.keyedL ks = true ∧ RepL G H ι ks (ys.map fun y => V.ref y.2.1) ∧ Vals vs (ys.map fun y => y.2.2) ∧ RepL G H ι xs vs
  | x, v => Rep G H ι x v
theorem Rep.rn {G : Gx} {H : Hp} {ι : Io} {x : P} {v : V} (h : Rep G H ι x v) : Rn G H ι x v := by
  cases x with
  | lst xs =>
    simp only [Rep] at h
    obtain ⟨a, vs, e, t, r⟩ := h
    exact ⟨a, vs, e, t.rd, r⟩
  | dK ks xs =>
    simp only [Rep] at h
    obtain ⟨a, o, vs, e, t, l, r⟩ := h
    exact ⟨a, vs, e, .inr ⟨o, t.1⟩, l, r⟩
  | dT ks xs =>
    simp only [Rep] at h
    obtain ⟨a, o, ys, vs, e, t, r⟩ := h
    exact ⟨a, o, ys, vs, e, .inr ⟨o, t.1⟩, r⟩
  | _ => exact h
/-- what is seen of a value -/
def seen : Option (Option MO) → Option P
  | some (some (.lst xs)) => some (.lst xs)
  | some (some (.dK ks xs)) => some (.dK ks xs)
  | some (some (.dT ks xs)) => some (.dT ks xs)
  | _ => none
def view (d : D) (m : Mem) : Option P := match d with
  | .p x => some x
  | .ref i => seen m[i]?
  | .und => none
@[simp] theorem view_ref (i : Nat) (m : Mem) : view (.ref i) m = seen m[i]? := rfl
@[simp] theorem view_p (x : P) (m : Mem) : view (.p x) m = some x := rfl
theorem MRel.live {G : Gx} {H : Hp} {ι : Io} {m : Mem} (r : MRel G H ι m) {i : Nat} {o : MO} (h : m[i]? = some (some o)) {a : Addr} (q : ι.at_[i]? = some (some a) ∨ ι.at_[i]? = some none) : ι.at_[i]? = some (some a) ∧ MObj G H ι a o := by
  rcases q with q | q
  · obtain ⟨o', e, ob⟩ := r.obj i a q
    rw [h] at e; cases e
    exact ⟨q, ob⟩
  · rw [r.gon i q] at h; cases h
theorem rn_view {G : Gx} {H : Hp} {ι : Io} {m : Mem} {d : D} {v : V} {x : P} (M : MRel G H ι m) (r : RepD G H ι d v) (h : view d m = some x) : Rn G H ι x v := by
  cases d with
  | p y => cases h; exact Rep.rn r
  | und => cases h
  | ref i =>
    obtain ⟨a, e, q⟩ := r
    subst e
    rw [view_ref] at h
    cases hm : m[i]? with
    | none => rw [hm] at h; cases h
    | some o =>
      rw [hm] at h
      cases o with
      | none => cases h
      | some o =>
        cases o with
        | lst xs =>
          cases h
          obtain ⟨_, vs, e, r⟩ := M.live hm q
          exact ⟨a, vs, rfl, .inl e, r⟩
        | dK ks xs =>
          cases h
          obtain ⟨_, vs, e, l, r⟩ := M.live hm q
          exact ⟨a, vs, rfl, .inl e, l, r⟩
        | dT ks xs =>
          cases h
          obtain ⟨_, o, ys, vs, e, r⟩ := M.live hm q
          exact ⟨a, o, ys, vs, rfl, .inl e, r⟩
        | ins C ns ds => cases h

mutual
theorem Rep.dp {G : Gx} {H : Hp} {ι : Io} : ∀ (x : P) (v : V), x.plain = true → Rep G H ι x v → Dp G.K H v x.py
  | .non, v, _, h => by simp only [Rep] at h; rw [h]; exact .non
  | .bl b, v, _, h => by simp only [Rep] at h; rw [h]; exact .bl b
  | .int i, v, _, h => by simp only [Rep] at h; rw [h]; exact .int i
  | .str s, v, _, h => by simp only [Rep] at h; rw [h]; exact .str s
  | .tup xs, v, p, h => by
    simp only [Rep] at h
    obtain ⟨a, vs, e, t, r⟩ := h
    rw [e, P.py]
    exact .tup t.sq (RepL.dp xs vs (by simpa [P.plain] using p) r)
  | .lst xs, v, p, h => by
    simp only [Rep] at h
    obtain ⟨a, vs, e, t, r⟩ := h
    rw [e, P.py]
    exact .lst t.sq (RepL.dp xs vs (by simpa [P.plain] using p) r)
  | .dK _ _, _, p, _ => by simp [P.plain] at p
  | .dT _ _, _, p, _ => by simp [P.plain] at p
  | .obj _ _ _, _, p, _ => by simp [P.plain] at p
  | .exc _ _ _, _, p, _ => by simp [P.plain] at p
theorem RepL.dp {G : Gx} {H : Hp} {ι : Io} : ∀ (xs : List P) (vs : List V), P.plainL xs = true → RepL G H ι xs vs → DpAll G.K H vs (P.pyL xs)
  | [], vs, _, h => by simp only [RepL] at h; rw [h, P.pyL]; exact .nil
  | x :: xs, vs, p, h => by
    simp only [RepL] at h
    obtain ⟨v, r, e, h1, h2⟩ := h
    rw [P.plainL, Bool.and_eq_true] at p
    rw [e, P.pyL]
    exact .cons (Rep.dp x v p.1 h1) (RepL.dp xs r p.2 h2)
end
theorem Rn.dp {G : Gx} {H : Hp} {ι : Io} {x : P} {v : V} (p : x.plain = true) (h : Rn G H ι x v) : Dp G.K H v x.py := by
  cases x with
  | lst xs =>
    obtain ⟨a, vs, e, t, r⟩ := h
    rw [e, P.py]
    exact .lst (.inl t) (RepL.dp xs vs (by simpa [P.plain] using p) r)
  | dK ks xs => simp [P.plain] at p
  | dT ks xs => simp [P.plain] at p
  | _ => exact Rep.dp (ι := ι) _ _ p h
theorem Rn.reads {X : Cx} {pins : List (Addr × Obj)} {σ : L2.St} {H : Hp} {s : Shared} (I : Inv X pins σ H s) {ι : Io} {x : P} {v : V} {u : Value} (p : x.plain = true) (h : Rn (gx X) H ι x v) (r : RelV v u) : ∃ as, Reads s.heap u x.py as :=
  Dp.reads I _ _ _ (Rn.dp p h) r

/-! ### depth -/
mutual
def P.dep : P → Nat
  | .tup xs => P.depL xs + 1
  | .lst xs => P.depL xs + 1
  | _ => 0
def P.depL : List P → Nat
  | [] => 0
  | x :: xs => max (P.dep x) (P.depL xs)
end
mutual
theorem P.dep_py : ∀ x : P, x.py.depth = x.dep
  | .non => by simp [P.py, P.dep, PyData.depth]
  | .bl _ => by simp [P.py, P.dep, PyData.depth]
  | .int _ => by simp [P.py, P.dep, PyData.depth]
  | .str _ => by simp [P.py, P.dep, PyData.depth]
  | .tup xs => by simp only [P.py, P.dep, PyData.depth]; rw [P.depL_py xs]
  | .lst xs => by simp only [P.py, P.dep, PyData.depth]; rw [P.depL_py xs]
  | .dK _ _ => by simp [P.py, P.dep, PyData.depth]
  | .dT _ _ => by simp [P.py, P.dep, PyData.depth]
  | .obj _ _ _ => by simp [P.py, P.dep, PyData.depth]
  | .exc _ _ _ => by simp [P.py, P.dep, PyData.depth]
theorem P.depL_py : ∀ xs : List P, PyData.depthAll (P.pyL xs) = P.depL xs
  | [] => by simp [P.pyL, P.depL, PyData.depthAll]
  | x :: xs => by simp only [P.pyL, P.depL, PyData.depthAll]; rw [P.dep_py x, P.depL_py xs]
end
mutual
theorem P.plain_py : ∀ x : P, x.plain = true → x.py.plain = true
  | .non, _ => rfl
  | .bl _, _ => rfl
  | .int _, _ => rfl
  | .str _, _ => rfl
  | .tup xs, h => by simp only [P.py, PyData.plain]; exact P.plainL_py xs (by simpa [P.plain] using h)
  | .lst xs, h => by simp only [P.py, PyData.plain]; exact P.plainL_py xs (by simpa [P.plain] using h)
  | .dK _ _, h => by simp [P.plain] at h
  | .dT _ _, h => by simp [P.plain] at h
  | .obj _ _ _, h => by simp [P.plain] at h
  | .exc _ _ _, h => by simp [P.plain] at h
theorem P.plainL_py : ∀ xs : List P, P.plainL xs = true → PyData.plainAll (P.pyL xs) = true
  | [], _ => rfl
  | x :: xs, h => by
    rw [P.plainL, Bool.and_eq_true] at h
    simp only [P.pyL, PyData.plainAll, P.plain_py x h.1, P.plainL_py xs h.2, Bool.and_self]
end
/-- plain data, not too deep -/
def P.fit (x : P) : Bool := x.plain && decide (x.dep ≤ 100)

/-! ### values in, a value out -/
def rP1 (X : Cx) (g : P → Option P) : V → Hp → VK → Prop := fun x H Q => ∃ ι a z, Rn (gx X) H ι a x ∧ g a = some z ∧ (∀ p, H p = none → ι.fre p) ∧ ∀ v H', Same H H' → Rep (gx X) H' ι z v → Q v H'
def rP2 (X : Cx) (g : P → P → Option P) : R2 := fun x y H Q => ∃ ι a b z, Rn (gx X) H ι a x ∧ Rn (gx X) H ι b y ∧ g a b = some z ∧ (∀ p, H p = none → ι.fre p) ∧ ∀ v H', Same H H' → Rep (gx X) H' ι z v → Q v H'
def rPL (X : Cx) (g : List P → Option P) : List V → Hp → VK → Prop := fun xs H Q => ∃ ι as z, Paired (fun a x => Rn (gx X) H ι a x) as xs ∧ g as = some z ∧ (∀ p, H p = none → ι.fre p) ∧ ∀ v H', Same H H' → Rep (gx X) H' ι z v → Q v H'
def op1 (g : P → Option P) (d : D) (m : Mem) : ER D := match (view d m).bind g with
  | some z => .ok (.p z) m
  | none => .bad
def op2 (g : P → P → Option P) (d e : D) (m : Mem) : ER D := match (view d m).bind fun x => (view e m).bind fun y => g x y with
  | some z => .ok (.p z) m
  | none => .bad
def views : List D → Mem → Option (List P)
  | [], _ => some []
  | d :: ds, m => (view d m).bind fun x => (views ds m).bind fun xs => some (x :: xs)
def opL (g : List P → Option P) (ds : List D) (m : Mem) : ER D := match (views ds m).bind g with
  | some z => .ok (.p z) m
  | none => .bad
@[simp] theorem op1_p (g : P → Option P) (x : P) (m : Mem) : op1 g (.p x) m = match g x with | some z => .ok (.p z) m | none => .bad := rfl
@[simp] theorem op2_p (g : P → P → Option P) (x y : P) (m : Mem) : op2 g (.p x) (.p y) m = match g x y with | some z => .ok (.p z) m | none => .bad := rfl
section
variable {X : Cx} {W : WX} {σ : L2.St} {ι : Io} {H : Hp} {m : Mem} {Q : VK}
theorem ERP.fin {x : P} (M : MRel (gx X) H ι m) (h : ERP (gx X) W σ ι H (fun H ι => RepD (gx X) H ι) (.ok (.p x) m) Q) : ∀ v H', Same H H' → Rep (gx X) H' ι x v → Q v H' :=
  fun v H' s r => h v H' ι (.same s) (M.same s) r
theorem ERP.op1 {g : P → Option P} {d : D} {v : V} (M : MRel (gx X) H ι m) (r : RepD (gx X) H ι d v) (h : ERP (gx X) W σ ι H (fun H ι => RepD (gx X) H ι) (op1 g d m) Q) : rP1 X g v H Q := by
  unfold DL.op1 at h
  cases e : (view d m).bind g with
  | none => rw [e] at h; exact h.elim
  | some z =>
    rw [e] at h
    obtain ⟨x, hx, hz⟩ := Option.bind_eq_some_iff.mp e
    exact ⟨ι, x, z, rn_view M r hx, hz, fun p hp => M.fresh hp, ERP.fin M h⟩
theorem ERP.op2 {g : P → P → Option P} {d e : D} {v u : V} (M : MRel (gx X) H ι m) (r : RepD (gx X) H ι d v) (r' : RepD (gx X) H ι e u) (h : ERP (gx X) W σ ι H (fun H ι => RepD (gx X) H ι) (op2 g d e m) Q) : rP2 X g v u H Q := by
  unfold DL.op2 at h
  cases q : (view d m).bind fun x => (view e m).bind fun y => g x y with
  | none => rw [q] at h; exact h.elim
  | some z =>
    rw [q] at h
    obtain ⟨x, hx, q2⟩ := Option.bind_eq_some_iff.mp q
    obtain ⟨y, hy, hz⟩ := Option.bind_eq_some_iff.mp q2
    exact ⟨ι, x, y, z, rn_view M r hx, rn_view M r' hy, hz, fun p hp => M.fresh hp, ERP.fin M h⟩
theorem rn_views (M : MRel (gx X) H ι m) : ∀ {ds : List D} {vs : List V} {xs : List P}, RepDL (gx X) H ι ds vs → views ds m = some xs → Paired (fun a x => Rn (gx X) H ι a x) xs vs
  | [], vs, xs, r, h => by
    rw [show vs = [] from r]
    cases h
    exact .nil
  | d :: ds, vs, xs, r, h => by
    obtain ⟨v, t, e, r1, r2⟩ := r
    subst e
    unfold views at h
    obtain ⟨x, hx, h2⟩ := Option.bind_eq_some_iff.mp h
    obtain ⟨ys, hy, h3⟩ := Option.bind_eq_some_iff.mp h2
    cases h3
    exact .cons (rn_view M r1 hx) (rn_views M r2 hy)
theorem ERP.opL {g : List P → Option P} {ds : List D} {vs : List V} (M : MRel (gx X) H ι m) (r : RepDL (gx X) H ι ds vs) (h : ERP (gx X) W σ ι H (fun H ι => RepD (gx X) H ι) (opL g ds m) Q) : rPL X g vs H Q := by
  unfold DL.opL at h
  cases q : (views ds m).bind g with
  | none => rw [q] at h; exact h.elim
  | some z =>
    rw [q] at h
    obtain ⟨xs, hx, hz⟩ := Option.bind_eq_some_iff.mp q
    exact ⟨ι, xs, z, rn_views M r hx, hz, fun p hp => M.fresh hp, ERP.fin M h⟩
end

/-! ### expressions -/
section
variable {X : Cx} {W : WX} {a b c e : Expr} {es : List Expr} {fa fb fc : FE} {pos : Pos}
def sName (i : Nat) : FE := fun δ m => match δ[i]? with
  | some .und => .bad
  | some d => .ok d m
  | none => .bad
theorem de_name (i : Nat) {x : Str} (hN : X.N[i]? = some x := by rfl) (hv : Vis X.env.scope x := by first | exact Or.inl rfl | exact Or.inr (Or.inl rfl) | exact Or.inr (Or.inr rfl)) (hd : (x == ("__debug__" : Str)) = false := by decide)
    (hcd : (x == ("__classdict__" : Str)) = false := by decide) : DE X W (.Name x pos) (sName i) := (pe_var hN hv hd hcd).conv fun σ H Q ⟨δ, m, ι, S, M, h⟩ => by
  unfold sName at h
  cases q : δ[i]? with
  | none => rw [q] at h; exact h.elim
  | some d =>
    rw [q] at h
    cases d with
    | und => exact h.elim
    | p x =>
      obtain ⟨v, hs, r⟩ := S.at_ i _ q (by intro z; cases z)
      exact ⟨v, hs, h v H ι (.refl _ _) M r⟩
    | ref j =>
      obtain ⟨v, hs, r⟩ := S.at_ i _ q (by intro z; cases z)
      exact ⟨v, hs, h v H ι (.refl _ _) M r⟩
def sC (x : P) : FE := fun _ m => .ok (.p x) m
theorem de_int {i j} : DE X W (.Constant (.int i) j pos) (sC (.int i)) := pe_int.conv fun σ H Q ⟨δ, m, ι, S, M, h⟩ => h (.int i) H ι (.refl _ _) M (by simp [RepD, Rep])
theorem de_bl {i j} : DE X W (.Constant (.bool i) j pos) (sC (.bl i)) := pe_bl.conv fun σ H Q ⟨δ, m, ι, S, M, h⟩ => h (.bl i) H ι (.refl _ _) M (by simp [RepD, Rep])
theorem de_str {i j} : DE X W (.Constant (.str i) j pos) (sC (.str i)) := pe_str.conv fun σ H Q ⟨δ, m, ι, S, M, h⟩ => h (.str i) H ι (.refl _ _) M (by simp [RepD, Rep])
theorem de_non {j} : DE X W (.Constant .none j pos) (sC .non) := pe_non.conv fun σ H Q ⟨δ, m, ι, S, M, h⟩ => h .non H ι (.refl _ _) M (by simp [RepD, Rep])
/-- a constant of the module -/
def KonV (X : Cx) (x : Str) (z : P) : Prop := ∃ u v, X.mg x = some u ∧ RelV v u ∧ ∀ H ι, Rep (gx X) H ι z v
theorem de_glob {x : Str} {z : P} (k : KonV X x z) (hg : Gl X x := by rfl) (hd : (x == ("__debug__" : Str)) = false := by decide) : DE X W (.Name x pos) (sC z) := by
  obtain ⟨u, v, hm, r, hz⟩ := k
  exact (pe_glob hg hm r hd).conv fun σ H Q ⟨δ, m, ι, S, M, h⟩ => h v H ι (.refl _ _) M (hz H ι)
def sOp (g : P → P → Option P) (fa fb : FE) : FE := fun δ m => (fa δ m).bind fun d m => (fb δ m).bind fun e m => op2 g d e m
theorem de_op {op : Operator} {g : P → P → Option P} (ho : OpR X (binaryOp op) (rP2 X g)) (ha : DE X W a fa) (hb : DE X W b fb) : DE X W (.BinOp a op b pos) (sOp g fa fb) :=
  (pe_op ho ha hb).conv fun σ H Q ⟨δ, m, ι, S, M, h⟩ =>
    ⟨δ, m, ι, S, M, h.seq fun d m1 v H1 ι1 _ s1 M1 r1 h1 => ⟨δ, m1, ι1, S.step s1, M1, h1.seq fun e m2 u H2 ι2 _ s2 M2 r2 h2 => ERP.op2 M2 (r1.step s2) r2 h2⟩⟩
theorem de_cmp {op : CmpOp} {g : P → P → Option P} (ho : OpR X (compareOp op) (rP2 X g)) (ha : DE X W a fa) (hb : DE X W b fb) (hm : behindInMarks op b = false := by first | exact nomark _ | rfl) : DE X W (.Compare a [op] [b] pos) (sOp g fa fb) :=
  (pe_cmpR ho ha hb hm).conv fun σ H Q ⟨δ, m, ι, S, M, h⟩ =>
    ⟨δ, m, ι, S, M, h.seq fun d m1 v H1 ι1 _ s1 M1 r1 h1 => ⟨δ, m1, ι1, S.step s1, M1, h1.seq fun e m2 u H2 ι2 _ s2 M2 r2 h2 => ERP.op2 M2 (r1.step s2) r2 h2⟩⟩
def sUn (g : P → Option P) (fa : FE) : FE := fun δ m => (fa δ m).bind fun d m => op1 g d m
theorem de_un {op : UnaryOp} {g : P → Option P} (ho : UnR X (unaryOp op) (rP1 X g)) (ha : DE X W a fa) : DE X W (.UnaryOp op a pos) (sUn g fa) :=
  (pe_un ho ha).conv fun σ H Q ⟨δ, m, ι, S, M, h⟩ => ⟨δ, m, ι, S, M, h.seq fun d m1 v H1 ι1 _ s1 M1 r1 h1 => ERP.op1 M1 r1 h1⟩
/-- the truth of a value that is a bool -/
def asB (d : D) (m : Mem) : ER Bool := match d with
  | .p (.bl b) => .ok b m
  | _ => .bad
def sB (fa : FE) : FB := fun δ m => (fa δ m).bind asB
theorem asB_rep {G : Gx} {σ : L2.St} {H : Hp} {ι : Io} {m : Mem} {d : D} {v : V} {Q : Bool → Hp → Prop} (M : MRel G H ι m) (r : RepD G H ι d v) (h : ERP G W σ ι H (fun _ _ (b : Bool) b' => b = b') (asB d m) Q) : ∃ k, v = .bl k ∧ Q k H := by
  unfold asB at h
  split at h
  · rename_i k
    simp only [RepD, Rep] at r
    exact ⟨k, r, h k H ι (.refl _ _) M rfl⟩
  · exact h.elim
theorem db_cmp {op : CmpOp} {g : P → P → Option P} (ho : OpR X (compareOp op) (rP2 X g)) (ha : DE X W a fa) (hb : DE X W b fb) (hm : behindInMarks op b = false := by first | exact nomark _ | rfl) : DB X W (.Compare a [op] [b] pos) (sB (sOp g fa fb)) :=
  (pt_cmpR ho ha hb hm).conv fun σ H Q ⟨δ, m, ι, S, M, h⟩ => by
    refine ⟨δ, m, ι, S, M, ?_⟩
    unfold sB sOp at h
    cases q : fa δ m with
    | bad => rw [q] at h; exact h
    | ex x m1 => rw [q] at h; exact h
    | ok d m1 =>
      rw [q] at h
      intro v H1 ι1 s1 M1 r1
      refine ⟨δ, m1, ι1, S.step s1, M1, ?_⟩
      have h1 := h.step s1
      simp only [ER.bind_ok] at h1
      cases q2 : fb δ m1 with
      | bad => rw [q2] at h1; exact h1
      | ex x m2 => rw [q2] at h1; exact h1
      | ok e m2 =>
        rw [q2] at h1
        intro u H2 ι2 s2 M2 r2
        have h2 := h1.step s2
        simp only [ER.bind_ok] at h2
        refine ERP.op2 (σ := σ) (W := W) (m := m2) M2 (r1.step s2) r2 ?_
        exact ERP.seq (rel := fun H ι => RepD (gx X) H ι) h2 fun z m3 w H3 ι3 _ s3 M3 r3 h3 => asB_rep M3 r3 h3
/-- two comparisons in a row -/
def sChain (g g' : P → P → Option P) (fa fb fc : FE) : FE := fun δ m => (fa δ m).bind fun d m => (fb δ m).bind fun e m => (op2 g d e m).bind fun z m => (asB z m).bind fun k m => if k = true then (fc δ m).bind fun c m => op2 g' e c m else .ok (.p (.bl false)) m
theorem chain_conv {g g' : P → P → Option P} (σ : L2.St) (H : Hp) (Q : VK) : tD X W (sChain g g' fa fb fc) σ H Q → tChain (rP2 X g) (rP2 X g') (tD X W fa) (tD X W fb) (tD X W fc) σ H Q := fun ⟨δ, m, ι, S, M, h⟩ =>
    ⟨δ, m, ι, S, M, h.seq fun d m1 v H1 ι1 _ s1 M1 r1 h1 => ⟨δ, m1, ι1, S.step s1, M1, h1.seq fun e m2 u H2 ι2 _ s2 M2 r2 h2 => ERP.op2 (σ := σ) (W := W) (m := m2) M2 (r1.step s2) r2 (h2.seq fun z m3 w H3 ι3 q3 s3 M3 r3 h3 => by
      clear q3
      unfold asB at h3
      split at h3
      · rename_i k
        simp only [RepD, Rep] at r3
        refine ⟨k, r3, ?_⟩
        simp only [ER.bind_ok] at h3
        cases k with
        | false =>
          rw [if_neg (by decide)] at h3
          rw [if_neg (by decide)]
          exact h3 (.bl false) H3 ι3 (.refl _ _) M3 (by simp [RepD, Rep])
        | true =>
          rw [if_pos rfl] at h3
          rw [if_pos rfl]
          exact ⟨δ, m3, ι3, S.step (s1.trans (s2.trans s3)), M3, h3.seq fun c m4 w' H4 ι4 _ s4 M4 r4 h4 => ERP.op2 M4 (r2.step (s3.trans s4)) r4 h4⟩
      · exact h3.elim)⟩⟩
theorem de_chain {op op' : CmpOp} {g g' : P → P → Option P} (ho : OpR X (compareOp op) (rP2 X g)) (ho' : OpR X (compareOp op') (rP2 X g')) (ha : DE X W a fa) (hb : DE X W b fb) (hc : DE X W c fc)
    (hm : lastMarks [op, op'] [b, c] = false := by with_unfolding_all rfl) : DE X W (.Compare a [op, op'] [b, c] pos) (sChain g g' fa fb fc) :=
  (pe_chain ho ho' ha hb hc hm).conv fun σ H Q h => chain_conv σ H Q h
/-- any value that is a bool, as a test -/
theorem db_val (ha : DE X W e fa) (he : ∀ whole, isTrue e X.env whole = (do let v ← whole; standAt e.pos; holding [v] (truthy v)) := by intro _; rfl) : DB X W e (sB fa) :=
  (pt_val ha he).conv fun σ H Q ⟨δ, m, ι, S, M, h⟩ => ⟨δ, m, ι, S, M, h.seq fun d m1 v H1 ι1 _ s1 M1 r1 h1 => asB_rep M1 r1 h1⟩
end
end DL

set_option Elab.async false
set_option linter.all false
set_option maxRecDepth 100000
/-! The data layer, part c: operators by values. -/
namespace DL
open PySem PySem.Spec PyProof.Rows L2

section
variable {G : Gx} {H : Hp} {ι : Io}
theorem rep_int {i : Int} : Rep G H ι (.int i) (.int i) := by simp [Rep]
theorem rep_bl {i : Bool} : Rep G H ι (.bl i) (.bl i) := by simp [Rep]
theorem rep_str {i : Str} : Rep G H ι (.str i) (.str i) := by simp [Rep]
theorem rep_non : Rep G H ι .non .non := by simp [Rep]
theorem rn_int {i : Int} {x : V} (h : Rn G H ι (.int i) x) : x = .int i := by simpa [Rn, Rep] using h
theorem rn_bl {i : Bool} {x : V} (h : Rn G H ι (.bl i) x) : x = .bl i := by simpa [Rn, Rep] using h
theorem rn_str {i : Str} {x : V} (h : Rn G H ι (.str i) x) : x = .str i := by simpa [Rn, Rep] using h
theorem rn_non {x : V} (h : Rn G H ι .non x) : x = .non := by simpa [Rn, Rep] using h
theorem rn_tup {xs : List P} {x : V} (h : Rn G H ι (.tup xs) x) : ∃ a vs, x = .ref a ∧ StT G.K H ι a vs ∧ RepL G H ι xs vs := by simpa [Rn, Rep] using h
theorem rn_lst {xs : List P} {x : V} (h : Rn G H ι (.lst xs) x) : ∃ a vs, x = .ref a ∧ Rd H a (.lst vs) ∧ RepL G H ι xs vs := h
/-- a new tuple, a new list -/
theorem rep_tup {xs : List P} {vs : List V} {p : Addr} (hp : H p = none) (f : ι.fre p) (r : RepL G H ι xs vs) : Rep G (upd H p (.tup vs)) ι (.tup xs) (.ref p) := by
  simp only [Rep]
  exact ⟨p, vs, rfl, .inl ⟨upd_same, f⟩, RepL.step (.same (Same.upd hp)) _ _ r⟩
theorem rep_lst {xs : List P} {vs : List V} {p : Addr} (hp : H p = none) (f : ι.fre p) (r : RepL G H ι xs vs) : Rep G (upd H p (.lst vs)) ι (.lst xs) (.ref p) := by
  simp only [Rep]
  exact ⟨p, vs, rfl, .inl ⟨upd_same, f⟩, RepL.step (.same (Same.upd hp)) _ _ r⟩
theorem rep_tup0 {xs : List P} {vs : List V} {p : Addr} (h : StT G.K H ι p vs) (r : RepL G H ι xs vs) : Rep G H ι (.tup xs) (.ref p) := by
  simp only [Rep]
  exact ⟨p, vs, rfl, h, r⟩
end
section
variable {X : Cx} {pins : List (Addr × Obj)} {σ : L2.St} {H : Hp} {s : Shared} {a : Addr} {xs : List V}
/-- a list that is read, as it stands -/
theorem lst_rd (I : Inv X pins σ H s) (h : Rd H a (.lst xs)) : xs.length ≤ sizeLine ∧ ∃ (its : List Value) (n : Nat), Vals xs its ∧ s.heap.get? a = some { cls := .type "list", data := .seq its.toArray n } := h.ok I.hok
theorem lst_is (I : Inv X pins σ H s) (h : Rd H a (.lst xs)) : ∃ its : List Value, Vals xs its ∧ s.heap.IsList a its.toArray := by
  obtain ⟨_, its, n, r, e⟩ := lst_rd I h
  exact ⟨its, r, _, e, rfl, n, rfl⟩
end

/-! ### + - * // % ** -/
def pAdd : P → P → Option P
  | .int i, .int j => some (.int (i + j))
  | .str x, .str y => if x.length + y.length ≤ 16777216 then some (.str (x ++ y)) else none
  | .tup xs, .tup ys => if xs.length + ys.length ≤ 16777216 then some (.tup (xs ++ ys)) else none
  | .lst xs, .lst ys => if xs.length + ys.length ≤ 16777216 then some (.lst (xs ++ ys)) else none
  | _, _ => none
def pSub : P → P → Option P
  | .int i, .int j => some (.int (i - j))
  | _, _ => none
def pMul : P → P → Option P
  | .int i, .int j => if (-(2 ^ 64) < i ∧ i < 2 ^ 64) ∨ (-(2 ^ 64) < j ∧ j < 2 ^ 64) then some (.int (i * j)) else none
  | _, _ => none
def pMod : P → P → Option P
  | .int i, .int j => if 0 < j then some (.int (i % j)) else none
  | _, _ => none
def pDiv : P → P → Option P
  | .int i, .int j => if 0 < j ∧ j < 1073741824 then some (.int (i / j)) else none
  | _, _ => none
def pPow : P → P → Option P
  | .int i, .int j => if 0 ≤ j ∧ j ≤ 1000000 ∧ i.natAbs < 2 ^ 64 then some (.int (i ^ j.toNat)) else none
  | _, _ => none
def pNeg : P → Option P
  | .int i => some (.int (-i))
  | _ => none
section
variable {X : Cx}
theorem o_add : OpR X (binaryOp .Add) (rP2 X pAdd) := by
  intro pins s σ H x y v u Q I rx ry h
  obtain ⟨ι, a, b, z, ra, rb, g, fr, q⟩ := h
  unfold pAdd at g
  split at g
  · cases g
    exact op_add pins s σ H x y v u Q I rx ry ⟨_, _, rn_int ra, rn_int rb, q _ _ (.refl _) rep_int⟩
  · split at g
    · rename_i hl
      cases g
      exact op_add_str pins s σ H x y v u Q I rx ry ⟨_, _, rn_str ra, rn_str rb, by rw [sizeLine_eq]; exact hl, q _ _ (.refl _) rep_str⟩
    · cases g
  · split at g
    · rename_i xs ys hl
      cases g
      obtain ⟨p, vs, e, t, r⟩ := rn_tup ra
      obtain ⟨p', vs', e', t', r'⟩ := rn_tup rb
      refine op_catA pins s σ H x y v u Q I rx ry ⟨p, p', vs, vs', e, e', t.sq, t'.sq, by rw [sizeLine_eq, ← r.length, ← r'.length]; exact hl, fun z => ?_, fun _ z => ?_, fun _ _ n hn => ?_⟩
      · subst z
        have e0 : xs = [] := List.eq_nil_of_length_eq_zero r.length
        subst e0
        exact q _ _ (.refl _) (rep_tup0 t' r')
      · subst z
        have e0 : ys = [] := List.eq_nil_of_length_eq_zero r'.length
        subst e0
        rw [List.append_nil] at q
        exact q _ _ (.refl _) (rep_tup0 t r)
      · exact q _ _ (Same.upd hn) (rep_tup hn (fr n hn) (r.append r'))
    · cases g
  · split at g
    · rename_i xs ys hl
      cases g
      obtain ⟨p, vs, e, t, r⟩ := rn_lst ra
      obtain ⟨p', vs', e', t', r'⟩ := rn_lst rb
      subst e e'
      cases rx
      cases ry
      obtain ⟨_, its, n, w, e⟩ := lst_rd I t
      obtain ⟨_, its', n', w', e'⟩ := lst_rd I t'
      have hl' : vs.length + vs'.length ≤ 16777216 := by rw [← r.length, ← r'.length]; exact hl
      refine PySem.P.add_list e e' ?_ (by rw [List.size_toArray, List.size_toArray, ← w.length, ← w'.length, sizeLine_eq]; exact hl')
      have ea : its.toArray ++ its'.toArray = (its ++ its').toArray := by simp
      rw [ea]
      exact ⟨.ref _, _, I.lnew (t' := s.toks) (w.append w') (by rw [List.length_append, sizeLine_eq]; exact hl'), rfl, q _ _ (Same.upd I.fresh) (rep_lst I.fresh (fr _ I.fresh) (r.append r'))⟩
    · cases g
  · cases g
theorem o_sub : OpR X (binaryOp .Sub) (rP2 X pSub) := by
  intro pins s σ H x y v u Q I rx ry h
  obtain ⟨ι, a, b, z, ra, rb, g, fr, q⟩ := h
  unfold pSub at g
  split at g
  · cases g
    exact op_sub pins s σ H x y v u Q I rx ry ⟨_, _, rn_int ra, rn_int rb, q _ _ (.refl _) rep_int⟩
  · cases g
theorem o_mul : OpR X (binaryOp .Mult) (rP2 X pMul) := by
  intro pins s σ H x y v u Q I rx ry h
  obtain ⟨ι, a, b, z, ra, rb, g, fr, q⟩ := h
  unfold pMul at g
  split at g
  · split at g
    · rename_i hc
      cases g
      exact op_mul pins s σ H x y v u Q I rx ry ⟨_, _, rn_int ra, rn_int rb, hc, q _ _ (.refl _) rep_int⟩
    · cases g
  · cases g
theorem o_mod : OpR X (binaryOp .Mod) (rP2 X pMod) := by
  intro pins s σ H x y v u Q I rx ry h
  obtain ⟨ι, a, b, z, ra, rb, g, fr, q⟩ := h
  unfold pMod at g
  split at g
  · split at g
    · rename_i hc
      cases g
      exact op_mod pins s σ H x y v u Q I rx ry ⟨_, _, rn_int ra, rn_int rb, hc, q _ _ (.refl _) rep_int⟩
    · cases g
  · cases g
theorem o_div : OpR X (binaryOp .FloorDiv) (rP2 X pDiv) := by
  intro pins s σ H x y v u Q I rx ry h
  obtain ⟨ι, a, b, z, ra, rb, g, fr, q⟩ := h
  unfold pDiv at g
  split at g
  · split at g
    · rename_i hc
      cases g
      exact op_fdiv pins s σ H x y v u Q I rx ry ⟨_, _, rn_int ra, rn_int rb, hc, q _ _ (.refl _) rep_int⟩
    · cases g
  · cases g
theorem o_pow : OpR X (binaryOp .Pow) (rP2 X pPow) := by
  intro pins s σ H x y v u Q I rx ry h
  obtain ⟨ι, a, b, z, ra, rb, g, fr, q⟩ := h
  unfold pPow at g
  split at g
  · split at g
    · rename_i hc
      cases g
      exact op_pow pins s σ H x y v u Q I rx ry ⟨_, _, rn_int ra, rn_int rb, hc, q _ _ (.refl _) rep_int⟩
    · cases g
  · cases g
theorem o_neg : UnR X (unaryOp .USub) (rP1 X pNeg) := by
  intro pins s σ H x v Q I rx h
  obtain ⟨ι, a, z, ra, g, fr, q⟩ := h
  unfold pNeg at g
  split at g
  · cases g
    exact un_neg pins s σ H x v Q I rx ⟨_, rn_int ra, q _ _ (.refl _) rep_int⟩
  · cases g
end

/-! ### == != -/
mutual
def P.eqv : P → P → Bool
  | .non, .non => true
  | .bl a, .bl b => a == b
  | .bl a, .int j => decide ((if a then 1 else 0) = j)
  | .int i, .bl b => decide (i = (if b then 1 else 0))
  | .int i, .int j => decide (i = j)
  | .str x, .str y => decide (x = y)
  | .tup xs, .tup ys => P.eqvL xs ys
  | .lst xs, .lst ys => P.eqvL xs ys
  | _, _ => false
def P.eqvL : List P → List P → Bool
  | [], [] => true
  | x :: xs, y :: ys => P.eqv x y && P.eqvL xs ys
  | _, _ => false
end
theorem beq_dec {α : Type} [DecidableEq α] (a b : α) : (a == b) = decide (a = b) := by
  by_cases h : a = b
  · subst h; simp
  · rw [decide_eq_false h]; exact beq_eq_false_iff_ne.mpr h
mutual
theorem P.eqv_py : ∀ a b : P, a.plain = true → b.plain = true → PyData.eqv a.py b.py = P.eqv a b
  | .non, b, _, h => by cases b <;> first | rfl | (simp [P.plain] at h; done)
  | .bl a, b, _, h => by cases b <;> first | rfl | (simp [P.py, PyData.eqv, P.eqv, beq_dec]; done) | (simp [P.plain] at h; done)
  | .int a, b, _, h => by cases b <;> first | (simp [P.py, PyData.eqv, P.eqv, beq_dec]; done) | (simp [P.plain] at h; done)
  | .str a, b, _, h => by cases b <;> first | (simp [P.py, PyData.eqv, P.eqv, beq_dec]; done) | (simp [P.plain] at h; done)
  | .tup xs, b, p, h => by
    cases b with
    | tup ys => simp only [P.py, PyData.eqv, P.eqv]; exact P.eqvL_py xs ys (by simpa [P.plain] using p) (by simpa [P.plain] using h)
    | _ => first | (simp [P.py, PyData.eqv, P.eqv]; done) | (simp [P.plain] at h; done)
  | .lst xs, b, p, h => by
    cases b with
    | lst ys => simp only [P.py, PyData.eqv, P.eqv]; exact P.eqvL_py xs ys (by simpa [P.plain] using p) (by simpa [P.plain] using h)
    | _ => first | (simp [P.py, PyData.eqv, P.eqv]; done) | (simp [P.plain] at h; done)
  | .dK _ _, _, p, _ => by simp [P.plain] at p
  | .dT _ _, _, p, _ => by simp [P.plain] at p
  | .obj _ _ _, _, p, _ => by simp [P.plain] at p
  | .exc _ _ _, _, p, _ => by simp [P.plain] at p
theorem P.eqvL_py : ∀ a b : List P, P.plainL a = true → P.plainL b = true → PyData.eqvAll (P.pyL a) (P.pyL b) = P.eqvL a b
  | [], [], _, _ => rfl
  | [], _ :: _, _, _ => rfl
  | _ :: _, [], _, _ => rfl
  | x :: xs, y :: ys, p, q => by
    rw [P.plainL, Bool.and_eq_true] at p q
    simp only [P.pyL, PyData.eqvAll, P.eqvL, P.eqv_py x y p.1 q.1, P.eqvL_py xs ys p.2 q.2]
end
def pEq (a b : P) : Option P := if a.fit = true ∧ b.plain = true then some (.bl (P.eqv a b)) else none
def pNe (a b : P) : Option P := if a.fit = true ∧ b.plain = true then some (.bl (!P.eqv a b)) else none
theorem fit_plain {a : P} (h : a.fit = true) : a.plain = true := by
  unfold P.fit at h
  rw [Bool.and_eq_true] at h
  exact h.1
theorem fit_dep {a : P} (h : a.fit = true) : a.dep ≤ 100 := by
  unfold P.fit at h
  rw [Bool.and_eq_true] at h
  exact of_decide_eq_true h.2
section
variable {X : Cx}
theorem o_eq (hu : X.A.units + 110 < cLine) : OpR X (compareOp .Eq) (rP2 X pEq) := by
  intro pins s σ H x y v u Q I rx ry h
  obtain ⟨ι, a, b, z, ra, rb, g, fr, q⟩ := h
  unfold pEq at g
  split at g
  · rename_i hc
    cases g
    obtain ⟨as, r1⟩ := ra.reads I (fit_plain hc.1) rx
    obtain ⟨bs, r2⟩ := rb.reads I hc.2 ry
    have hd := fit_dep hc.1
    refine SeqAt.eq_plain r1 r2 (P.plain_py _ (fit_plain hc.1)) (P.plain_py _ hc.2) (by rw [P.dep_py, P.dep_py]; have := Nat.min_le_left a.dep b.dep; omega) ?_
    rw [P.eqv_py a b (fit_plain hc.1) hc.2]
    exact ⟨.bl _, H, I, rfl, q _ _ (.refl _) rep_bl⟩
  · cases g
theorem o_ne (hu : X.A.units + 110 < cLine) : OpR X (compareOp .NotEq) (rP2 X pNe) := by
  intro pins s σ H x y v u Q I rx ry h
  obtain ⟨ι, a, b, z, ra, rb, g, fr, q⟩ := h
  unfold pNe at g
  split at g
  · rename_i hc
    cases g
    obtain ⟨as, r1⟩ := ra.reads I (fit_plain hc.1) rx
    obtain ⟨bs, r2⟩ := rb.reads I hc.2 ry
    have hd := fit_dep hc.1
    refine SeqAt.ne_plain r1 r2 (P.plain_py _ (fit_plain hc.1)) (P.plain_py _ hc.2) (by rw [P.dep_py, P.dep_py]; have := Nat.min_le_left a.dep b.dep; omega) ?_
    rw [P.eqv_py a b (fit_plain hc.1) hc.2]
    exact ⟨.bl _, H, I, rfl, q _ _ (.refl _) rep_bl⟩
  · cases g
end

/-! ### < <= > >= -/
def pLtD (a b : P) : Option Bool := if a.fit = true ∧ b.plain = true ∧ PySem.W.alike a.py b.py = true then some (PySem.W.dataLt a.py b.py) else none
def pLt : P → P → Option P
  | .int i, .int j => some (.bl (decide (i < j)))
  | .str x, .str y => some (.bl (decide (x.cps.toList < y.cps.toList)))
  | .tup xs, .tup ys => (pLtD (.tup xs) (.tup ys)).map .bl
  | .lst xs, .lst ys => (pLtD (.lst xs) (.lst ys)).map .bl
  | _, _ => none
def pLeD (a b : P) : Option Bool := if a.fit = true ∧ b.fit = true ∧ PySem.W.alike a.py b.py = true then some (!PySem.W.dataLt b.py a.py) else none
def pLe : P → P → Option P
  | .int i, .int j => some (.bl (decide (i ≤ j)))
  | .tup xs, .tup ys => (pLeD (.tup xs) (.tup ys)).map .bl
  | _, _ => none
def pGt : P → P → Option P
  | .int i, .int j => some (.bl (decide (j < i)))
  | _, _ => none
def pGe : P → P → Option P
  | .int i, .int j => some (.bl (decide (j ≤ i)))
  | _, _ => none
section
variable {X : Cx}
theorem o_ltD (hu : X.A.units + 110 < cLine) {a b : P} (hn : a.py ≠ .none) {z : P} {pins : List (Addr × Obj)} {s : Shared} {σ : L2.St} {H : Hp} {ι : Io} {x y : V} {v u : Value} {Q : VK} (I : Inv X pins σ H s) (rx : RelV x v) (ry : RelV y u)
    (ra : Rn (gx X) H ι a x) (rb : Rn (gx X) H ι b y) (g : (pLtD a b).map P.bl = some z) (q : ∀ v H', Same H H' → Rep (gx X) H' ι z v → Q v H') : wpAny (model X.prog X.w) X.A (compareOp .Lt v u) (EP X pins σ Q) X.xe s := by
  unfold pLtD at g
  split at g
  · rename_i hc
    cases g
    obtain ⟨as, r1⟩ := ra.reads I (fit_plain hc.1) rx
    obtain ⟨bs, r2⟩ := rb.reads I hc.2.1 ry
    have hd := fit_dep hc.1
    refine PySem.W.lt_data r1 r2 hc.2.2 hn (by rw [P.dep_py, P.dep_py]; have := Nat.min_le_left a.dep b.dep; omega) ?_
    exact ⟨.bl _, H, I, rfl, q _ _ (.refl _) rep_bl⟩
  · cases g
theorem o_lt (hu : X.A.units + 110 < cLine) : OpR X (compareOp .Lt) (rP2 X pLt) := by
  intro pins s σ H x y v u Q I rx ry h
  obtain ⟨ι, a, b, z, ra, rb, g, fr, q⟩ := h
  unfold pLt at g
  split at g
  · cases g
    exact op_lt pins s σ H x y v u Q I rx ry ⟨_, _, rn_int ra, rn_int rb, q _ _ (.refl _) rep_bl⟩
  · cases g
    exact op_lt_str pins s σ H x y v u Q I rx ry ⟨_, _, rn_str ra, rn_str rb, q _ _ (.refl _) rep_bl⟩
  · exact o_ltD hu (by simp [P.py]) I rx ry ra rb g q
  · exact o_ltD hu (by simp [P.py]) I rx ry ra rb g q
  · cases g
theorem o_le (hu : X.A.units + 110 < cLine) : OpR X (compareOp .LtE) (rP2 X pLe) := by
  intro pins s σ H x y v u Q I rx ry h
  obtain ⟨ι, a, b, z, ra, rb, g, fr, q⟩ := h
  unfold pLe at g
  split at g
  · cases g
    exact op_le pins s σ H x y v u Q I rx ry ⟨_, _, rn_int ra, rn_int rb, q _ _ (.refl _) rep_bl⟩
  · rename_i xs ys
    unfold pLeD at g
    split at g
    · rename_i hc
      cases g
      obtain ⟨as, r1⟩ := ra.reads I (fit_plain hc.1) rx
      obtain ⟨bs, r2⟩ := rb.reads I (fit_plain hc.2.1) ry
      have hd := fit_dep hc.1
      refine PySem.W.le_data r1 r2 hc.2.2 (by simp [P.py]) (by rw [P.dep_py, P.dep_py]; have := Nat.min_le_left (P.tup xs).dep (P.tup ys).dep; omega) ?_
      exact ⟨.bl _, H, I, rfl, q _ _ (.refl _) rep_bl⟩
    · cases g
  · cases g
theorem o_gt : OpR X (compareOp .Gt) (rP2 X pGt) := by
  intro pins s σ H x y v u Q I rx ry h
  obtain ⟨ι, a, b, z, ra, rb, g, fr, q⟩ := h
  unfold pGt at g
  split at g
  · cases g
    exact op_gt pins s σ H x y v u Q I rx ry ⟨_, _, rn_int ra, rn_int rb, q _ _ (.refl _) rep_bl⟩
  · cases g
theorem o_ge : OpR X (compareOp .GtE) (rP2 X pGe) := by
  intro pins s σ H x y v u Q I rx ry h
  obtain ⟨ι, a, b, z, ra, rb, g, fr, q⟩ := h
  unfold pGe at g
  split at g
  · cases g
    exact op_ge pins s σ H x y v u Q I rx ry ⟨_, _, rn_int ra, rn_int rb, q _ _ (.refl _) rep_bl⟩
  · cases g
end

/-! ### is None -/
def P.isNon : P → Bool
  | .non => true
  | _ => false
def pIsN (a b : P) : Option P := match b with
  | .non => some (.bl a.isNon)
  | _ => none
def pNotN (a b : P) : Option P := match b with
  | .non => some (.bl (!a.isNon))
  | _ => none
theorem rn_isNon {G : Gx} {H : Hp} {ι : Io} {a : P} {x : V} (h : Rn G H ι a x) : decide (x = .non) = a.isNon := by
  cases a with
  | non => rw [rn_non h]; rfl
  | bl b => rw [rn_bl h]; rfl
  | int b => rw [rn_int h]; rfl
  | str b => rw [rn_str h]; rfl
  | tup xs => obtain ⟨p, vs, e, _⟩ := rn_tup h; rw [e]; rfl
  | lst xs => obtain ⟨p, vs, e, _⟩ := rn_lst h; rw [e]; rfl
  | dK ks xs => obtain ⟨p, vs, e, _⟩ := h; rw [e]; rfl
  | dT ks xs => obtain ⟨p, o, ys, vs, e, _⟩ := h; rw [e]; rfl
  | obj C ns xs =>
    simp only [Rn, Rep] at h
    obtain ⟨p, dx, vs, e, _⟩ := h; rw [e]; rfl
  | exc C ns xs =>
    simp only [Rn, Rep] at h
    obtain ⟨p, dx, vs, e, _⟩ := h; rw [e]; rfl
section
variable {X : Cx}
theorem o_isN : OpR X (compareOp .Is) (rP2 X pIsN) := by
  intro pins s σ H x y v u Q I rx ry h
  obtain ⟨ι, a, b, z, ra, rb, g, fr, q⟩ := h
  unfold pIsN at g
  split at g
  · cases g
    refine op_isN pins s σ H x y v u Q I rx ry ⟨rn_non rb, ?_⟩
    rw [rn_isNon ra]
    exact q _ _ (.refl _) rep_bl
  · cases g
theorem o_notN : OpR X (compareOp .IsNot) (rP2 X pNotN) := by
  intro pins s σ H x y v u Q I rx ry h
  obtain ⟨ι, a, b, z, ra, rb, g, fr, q⟩ := h
  unfold pNotN at g
  split at g
  · cases g
    refine op_notN pins s σ H x y v u Q I rx ry ⟨rn_non rb, ?_⟩
    rw [rn_isNon ra]
    exact q _ _ (.refl _) rep_bl
  · cases g
end

/-! ### in, not in -/
/-- the key that a datum is, in a dict of ints and texts -/
def P.ky : P → Option Key
  | .int i => some (.inl i)
  | .str s => some (.inr s)
  | _ => none
theorem ky_rep {G : Gx} {H : Hp} {ι : Io} {a : P} {x : V} {k : Key} (e : a.ky = some k) (h : Rn G H ι a x) : x = kV k := by
  cases a with
  | int i => cases e; rw [rn_int h]; rfl
  | str i => cases e; rw [rn_str h]; rfl
  | _ => cases e
/-- what stands at a key, the first one -/
def lookK (k : Key) : List Key → List P → Option P
  | j :: ks, x :: xs => if j = k then some x else lookK k ks xs
  | _, _ => none
theorem lookK_val {G : Gx} {H : Hp} {ι : Io} (k : Key) : ∀ (ks : List Key) (xs : List P) (vs : List V), RepL G H ι xs vs → (match lookK k ks xs with | some x => ∃ v, valV (ks.zip vs) k = some v ∧ Rep G H ι x v | none => ks.length = xs.length → valV (ks.zip vs) k = none)
  | [], xs, vs, _ => by simp [lookK, valV_nil]
  | j :: ks, [], vs, _ => by simp [lookK]
  | j :: ks, x :: xs, vs, r => by
    simp only [RepL] at r
    obtain ⟨v, t, e, h1, h2⟩ := r
    subst e
    unfold lookK
    by_cases hj : j = k
    · rw [if_pos hj]
      exact ⟨v, by rw [List.zip_cons_cons, valV_pos hj], h1⟩
    · rw [if_neg hj]
      have ih := lookK_val k ks xs t h2
      rw [List.zip_cons_cons]
      cases q : lookK k ks xs with
      | some y =>
        rw [q] at ih
        obtain ⟨w, e, r⟩ := ih
        exact ⟨w, by rw [valV_neg hj]; exact e, r⟩
      | none =>
        rw [q] at ih
        intro hl
        rw [valV_neg hj]
        exact ih (by simpa using hl)
theorem lookK_isSome {k : Key} : ∀ {ks : List Key} {xs : List P}, ks.length = xs.length → (lookK k ks xs).isSome = ks.any fun j => decide (j = k)
  | [], xs, _ => by simp [lookK]
  | j :: ks, [], h => by simp at h
  | j :: ks, x :: xs, h => by
    unfold lookK
    by_cases hj : j = k
    · rw [if_pos hj]; simp [hj]
    · rw [if_neg hj, lookK_isSome (by simpa using h)]
      simp [hj]
/-- the place of a key that is a tuple -/
def lookT (k : NestedKey) : List P → List P → Option P
  | j :: ks, x :: xs => if j.nk = k then some x else lookT k ks xs
  | _, _ => none
def P.keyD (a : P) : Bool := a.keyed && decide (a.nk.depth ≤ 8)
def pIn (neg : Bool) (a b : P) : Option P := match b with
  | .str z => (match a with
    | .str c => if c.cps.size = 1 then some (.bl (xor neg (decide (c.cps.getD 0 0 ∈ z.cps.toList)))) else none
    | _ => none)
  | .tup ys => if a.fit = true ∧ P.plainL ys = true then some (.bl (xor neg (ys.any fun y => P.eqv y a))) else none
  | .lst ys => if a.fit = true ∧ P.plainL ys = true then some (.bl (xor neg (ys.any fun y => P.eqv y a))) else none
  | .dK ks xs => a.ky.map fun k => .bl (xor neg (lookK k ks xs).isSome)
  | .dT ks xs => (match a with
    | .tup as => if (P.tup as).keyD = true then some (.bl (xor neg (lookT (P.tup as).nk ks xs).isSome)) else none
    | _ => none)
  | _ => none
theorem any_py (a : P) (ha : a.plain = true) : ∀ ys : List P, P.plainL ys = true → ((P.pyL ys).any fun z => PyData.eqv z a.py) = ys.any fun y => P.eqv y a
  | [], _ => rfl
  | y :: ys, h => by
    rw [P.plainL, Bool.and_eq_true] at h
    rw [P.pyL, List.any_cons, List.any_cons, P.eqv_py y a h.1 ha, any_py a ha ys h.2]
end DL

set_option Elab.async false
set_option linter.all false
set_option maxRecDepth 100000
/-! The data layer, part d: keys that are tuples, in, subscripts, slices. -/
namespace DL
open PySem PySem.Spec PyProof.Rows L2

section
variable {X : Cx} {pins : List (Addr × Obj)} {σ : L2.St} {H : Hp} {s : Shared} {ι : Io}
mutual
theorem Rep.key (I : Inv X pins σ H s) : ∀ (x : P) (v : V) (u : Value), x.keyed = true → Rep (gx X) H ι x v → RelV v u → NestedIs s.heap x.nk u
  | .non, v, u, _, h, r => by simp only [Rep] at h; subst h; cases r; exact .none
  | .bl b, v, u, _, h, r => by simp only [Rep] at h; subst h; cases r; exact .bool rfl
  | .int i, v, u, _, h, r => by simp only [Rep] at h; subst h; obtain ⟨t, rfl⟩ := r; exact .int i t
  | .str i, v, u, _, h, r => by simp only [Rep] at h; subst h; obtain ⟨t, rfl⟩ := r; exact .text i t
  | .tup xs, v, u, p, h, r => by
    simp only [Rep] at h
    obtain ⟨a, vs, e, t, q⟩ := h
    subst e
    obtain rfl : u = Value.ref a := r
    obtain ⟨its, w, ⟨o, ho, hc, n, hd⟩, _⟩ := I.tuple t.sq
    rw [P.nk]
    exact .tup ho hc hd (RepL.key I xs vs its (by simpa [P.keyed] using p) q w)
  | .lst _, _, _, p, _, _ => by simp [P.keyed] at p
  | .dK _ _, _, _, p, _, _ => by simp [P.keyed] at p
  | .dT _ _, _, _, p, _, _ => by simp [P.keyed] at p
  | .obj _ _ _, _, _, p, _, _ => by simp [P.keyed] at p
  | .exc _ _ _, _, _, p, _, _ => by simp [P.keyed] at p
theorem RepL.key (I : Inv X pins σ H s) : ∀ (xs : List P) (vs : List V) (us : List Value), P.keyedL xs = true → RepL (gx X) H ι xs vs → Vals vs us → NestedAll s.heap (P.nkL xs) us
  | [], vs, us, _, h, r => by simp only [RepL] at h; subst h; cases r; exact .nil
  | x :: xs, vs, us, p, h, r => by
    simp only [RepL] at h
    obtain ⟨v, t, e, h1, h2⟩ := h
    subst e
    rw [P.keyedL, Bool.and_eq_true] at p
    cases r with
    | cons r1 r2 =>
      rw [P.nkL]
      exact .cons (Rep.key I x _ _ p.1 h1 r1) (RepL.key I xs _ _ p.2 h2 r2)
end
theorem tab_keys (I : Inv X pins σ H s) {ys : List (NestedKey × Addr × Value)} : ∀ {ks : List P}, ys.map (·.1) = P.nkL ks → P.keyedL ks = true → RepL (gx X) H ι ks (ys.map fun y => V.ref y.2.1) → ∀ y ∈ ys, NestedIs s.heap y.1 (.ref y.2.1) := by
  induction ys with
  | nil => intro ks _ _ _ y hy; cases hy
  | cons z ys ih =>
    intro ks e1 e2 r y hy
    cases ks with
    | nil => rw [P.nkL] at e1; cases e1
    | cons k ks =>
      rw [P.nkL, List.map_cons] at e1
      injection e1 with e3 e4
      rw [P.keyedL, Bool.and_eq_true] at e2
      rw [List.map_cons] at r
      simp only [RepL] at r
      obtain ⟨v, t, e, h1, h2⟩ := r
      injection e with e5 e6
      subst e5 e6
      rcases List.mem_cons.mp hy with rfl | hy
      · rw [e3]
        exact Rep.key I k _ _ e2.1 h1 rfl
      · exact ih e4 e2.2 h2 y hy
/-- the dict in the library's words -/
theorem tab_dict (I : Inv X pins σ H s) {a : Addr} {o : Obj} {ys : List (NestedKey × Addr × Value)} {ks : List P} (hH : Rd H a (ExactO a o)) (t : TabO (gx X) a o ys) (e1 : ys.map (·.1) = P.nkL ks) (e2 : P.keyedL ks = true)
    (r : RepL (gx X) H ι ks (ys.map fun y => V.ref y.2.1)) : s.heap.DictOfH (nestedKind X.prog X.w) a ys := by
  have ok : ObjOk X.prog X.w H s.heap a (ExactO a o) := hH.ok I.hok
  have ho : s.heap.get? a = some o := ok.1
  obtain ⟨es, ep, hd, he⟩ := t.dat
  exact ⟨o, es, ep, ho, t.ex, hd, he, fun y hy => ⟨tab_keys I e1 e2 r y hy, t.dep y hy⟩, t.nd⟩
theorem lookT_atKey {k : NestedKey} : ∀ {ys : List (NestedKey × Addr × Value)} {ks : List P} {xs : List P} {vs : List V}, ys.map (·.1) = P.nkL ks → Vals vs (ys.map fun y => y.2.2) → RepL (gx X) H ι xs vs →
    match lookT k ks xs with
    | some x => ∃ p v, atKey ys k = some p ∧ RelV v p.2 ∧ Rep (gx X) H ι x v
    | none => atKey ys k = none
  | [], [], xs, vs, _, _, _ => by simp [lookT, atKey]
  | [], k :: ks, xs, vs, e, _, _ => by rw [P.nkL] at e; cases e
  | y :: ys, [], xs, vs, e, _, _ => by rw [P.nkL] at e; cases e
  | y :: ys, j :: ks, xs, vs, e, q, r => by
    rw [P.nkL, List.map_cons] at e
    injection e with e3 e4
    rw [List.map_cons] at q
    cases q with
    | @cons v _ vt _ q1 q2 =>
      cases xs with
      | nil => simp only [RepL] at r; cases r
      | cons x xs =>
        simp only [RepL] at r
        obtain ⟨v', t, e, h1, h2⟩ := r
        injection e with e5 e6
        subst e5 e6
        unfold lookT
        by_cases hj : j.nk = k
        · rw [if_pos hj]
          exact ⟨y.2, v, by simp [atKey, e3, hj], q1, h1⟩
        · rw [if_neg hj]
          have ih := lookT_atKey (k := k) e4 q2 h2
          have ea : atKey (y :: ys) k = atKey ys k := by simp [atKey, e3, hj]
          rw [ea]
          exact ih
end

/-! ### in -/
section
variable {X : Cx}
theorem xor_f (b : Bool) : xor false b = b := by cases b <;> rfl
theorem xor_t (b : Bool) : xor true b = !b := by cases b <;> rfl
theorem one_sign {c : Str} (h : c.cps.size = 1) : c = ⟨#[c.cps.getD 0 0]⟩ := by
  obtain ⟨⟨l⟩⟩ := c
  cases l with
  | nil => simp at h
  | cons a t =>
    cases t with
    | nil => rfl
    | cons b t => simp at h
theorem keyD_of {as : List P} (h : (P.tup as).keyD = true) : (P.tup as).keyed = true ∧ (P.tup as).nk.depth ≤ 8 := by
  unfold P.keyD at h
  rw [Bool.and_eq_true] at h
  exact ⟨h.1, of_decide_eq_true h.2⟩
theorem rn_tabD {G : Gx} {H : Hp} {ι : Io} {ks xs : List P} {x : V} (h : Rn G H ι (.dT ks xs) x) : ∃ a o ys vs, x = .ref a ∧ Rd H a (ExactO a o) ∧ TabO G a o ys ∧ ys.map (·.1) = P.nkL ks ∧ P.keyedL ks = true ∧ RepL G H ι ks (ys.map fun y => V.ref y.2.1) ∧ Vals vs (ys.map fun y => y.2.2) ∧ RepL G H ι xs vs := h
theorem rn_dK {G : Gx} {H : Hp} {ι : Io} {ks : List Key} {xs : List P} {x : V} (h : Rn G H ι (.dK ks xs) x) : ∃ a vs, x = .ref a ∧ Rd H a (.dK (ks.zip vs)) ∧ ks.length = xs.length ∧ RepL G H ι xs vs := h
theorem o_inG (hu : X.A.units + 110 < cLine) (neg : Bool) : OpR X (compareOp (if neg then .NotIn else .In)) (rP2 X (pIn neg)) := by
  intro pins s σ H x y v u Q I rx ry h
  obtain ⟨ι, a, b, z, ra, rb, g, fr, q⟩ := h
  unfold pIn at g
  split at g
  · -- a text
    split at g
    · rename_i z' _ c
      split at g
      · rename_i hc
        cases g
        rw [rn_str rb] at ry
        rw [rn_str ra, one_sign hc] at rx
        have e : (⟨#[c.cps.getD 0 0]⟩ : Str).cps.getD 0 0 = c.cps.getD 0 0 := rfl
        cases neg with
        | false =>
          rw [xor_f] at q
          exact op_in_sign pins s σ H _ _ v u Q I rx ry ⟨_, _, rfl, rfl, q _ _ (.refl _) rep_bl⟩
        | true =>
          rw [xor_t] at q
          exact op_notIn_sign pins s σ H _ _ v u Q I rx ry ⟨_, _, rfl, rfl, q _ _ (.refl _) rep_bl⟩
      · cases g
    · cases g
  · -- a tuple
    rename_i ys
    split at g
    · rename_i hc
      cases g
      obtain ⟨as, r1⟩ := ra.reads I (fit_plain hc.1) rx
      have py : (P.tup ys).plain = true := by simpa [P.plain] using hc.2
      obtain ⟨bs, r2⟩ := rb.reads I py ry
      rw [P.py] at r2
      have hd := fit_dep hc.1
      have hm := Nat.min_le_right (PyData.depthAll (P.pyL ys)) a.dep
      have e := any_py a (fit_plain hc.1) ys hc.2
      cases neg with
      | false =>
        rw [xor_f] at q
        refine SeqAt.in_tuple_data r2 r1 (P.plainL_py _ hc.2) (P.plain_py _ (fit_plain hc.1)) (by rw [P.dep_py]; omega) ?_
        rw [e]
        exact ⟨.bl _, H, I, rfl, q _ _ (.refl _) rep_bl⟩
      | true =>
        rw [xor_t] at q
        refine SeqAt.notIn_tuple_data r2 r1 (P.plainL_py _ hc.2) (P.plain_py _ (fit_plain hc.1)) (by rw [P.dep_py]; omega) ?_
        rw [e]
        exact ⟨.bl _, H, I, rfl, q _ _ (.refl _) rep_bl⟩
    · cases g
  · -- a list
    rename_i ys
    split at g
    · rename_i hc
      cases g
      obtain ⟨as, r1⟩ := ra.reads I (fit_plain hc.1) rx
      have py : (P.lst ys).plain = true := by simpa [P.plain] using hc.2
      obtain ⟨bs, r2⟩ := rb.reads I py ry
      rw [P.py] at r2
      have hd := fit_dep hc.1
      have hm := Nat.min_le_right (PyData.depthAll (P.pyL ys)) a.dep
      have e := any_py a (fit_plain hc.1) ys hc.2
      cases neg with
      | false =>
        rw [xor_f] at q
        refine SeqAt.in_list_data r2 r1 (P.plainL_py _ hc.2) (P.plain_py _ (fit_plain hc.1)) (by rw [P.dep_py]; omega) ?_
        rw [e]
        exact ⟨.bl _, H, I, rfl, q _ _ (.refl _) rep_bl⟩
      | true =>
        rw [xor_t] at q
        refine SeqAt.notIn_list_data r2 r1 (P.plainL_py _ hc.2) (P.plain_py _ (fit_plain hc.1)) (by rw [P.dep_py]; omega) ?_
        rw [e]
        exact ⟨.bl _, H, I, rfl, q _ _ (.refl _) rep_bl⟩
    · cases g
  · -- a dict
    rename_i ks xs
    cases hk : a.ky with
    | none => rw [hk] at g; cases g
    | some k =>
      rw [hk] at g
      cases g
      obtain ⟨p, vs, e, t, hl, r⟩ := rn_dK rb
      subst e
      obtain rfl : u = Value.ref p := ry
      have ex := ky_rep hk ra
      subst ex
      have es : (lookK k ks xs).isSome = (valV (ks.zip vs) k).isSome := by
        have lv := lookK_val k ks xs vs r
        cases hq : lookK k ks xs with
        | some y => rw [hq] at lv; obtain ⟨w, e, _⟩ := lv; rw [e]; rfl
        | none => rw [hq] at lv; rw [lv hl]; rfl
      dsimp only at q
      rw [es] at q
      have dg : DGet H p (kV k) (valV (ks.zip vs) k) := .inl ⟨_, k, t, rfl, rfl⟩
      cases neg with
      | false =>
        rw [xor_f] at q
        exact d_in (by omega) I dg rx fun s' I' => ⟨.bl _, H, I', rfl, q _ _ (.refl _) rep_bl⟩
      | true =>
        rw [xor_t] at q
        exact d_notIn (by omega) I dg rx fun s' I' => ⟨.bl _, H, I', rfl, q _ _ (.refl _) rep_bl⟩
  · -- tuples as keys
    rename_i ks xs
    split at g
    · rename_i as
      split at g
      · rename_i hk
        cases g
        obtain ⟨hk1, hk2⟩ := keyD_of hk
        obtain ⟨p, o, ys, vs, e, t, tb, e1, e2, r1, w, r2⟩ := rn_tabD rb
        subst e
        obtain rfl : u = Value.ref p := ry
        have dd := tab_dict I t tb e1 e2 r1
        have ra' : Rep (gx X) H ι (.tup as) x := ra
        have hkey := Rep.key I _ _ _ hk1 ra' rx
        obtain ⟨b, ws, eb, _, _⟩ := rn_tup ra
        subst eb
        obtain rfl : v = Value.ref b := rx
        have es : (lookT (P.tup as).nk ks xs).isSome = (valueAt (pairsH ys) (P.tup as).nk).isSome := by
          have lv := lookT_atKey (X := X) (H := H) (ι := ι) (k := (P.tup as).nk) e1 w r2
          rw [valueAt_pairsH, Option.isSome_map]
          cases hq : lookT (P.tup as).nk ks xs with
          | some y => rw [hq] at lv; obtain ⟨p, v, e, _⟩ := lv; rw [e]; rfl
          | none => rw [hq] at lv; rw [lv]; rfl
        rw [es] at q
        have hr : (nestedKind X.prog X.w).room X.A.in1 := by show X.A.units + 1 + 8 < cLine; omega
        cases neg with
        | false =>
          rw [xor_f] at q
          exact in_keyed hr ⟨hkey, hk2⟩ tb.sys ⟨ys, dd, rfl⟩ ⟨.bl _, H, I.tok _, rfl, q _ _ (.refl _) rep_bl⟩
        | true =>
          rw [xor_t] at q
          exact notIn_keyed hr ⟨hkey, hk2⟩ tb.sys ⟨ys, dd, rfl⟩ ⟨.bl _, H, I.tok _, rfl, q _ _ (.refl _) rep_bl⟩
      · cases g
    · cases g
  · cases g
theorem o_in (hu : X.A.units + 110 < cLine) : OpR X (compareOp .In) (rP2 X (pIn false)) := o_inG hu false
theorem o_notIn (hu : X.A.units + 110 < cLine) : OpR X (compareOp .NotIn) (rP2 X (pIn true)) := o_inG hu true
end

/-! ### a[i] -/
def pIx (a b : P) : Option P := match a with
  | .tup xs => (match b with
    | .int i => atI xs i
    | _ => none)
  | .lst xs => (match b with
    | .int i => atI xs i
    | _ => none)
  | .str z => (match b with
    | .int i => if z.length ≤ 16777216 then (atI z.cps.toList i).map fun c => .str ⟨#[c]⟩ else none
    | _ => none)
  | .dK ks xs => b.ky.bind fun k => lookK k ks xs
  | .dT ks xs => (match b with
    | .tup bs => if (P.tup bs).keyD = true then lookT (P.tup bs).nk ks xs else none
    | _ => none)
  | _ => none
theorem atI_rep {G : Gx} {H : Hp} {ι : Io} {xs : List P} {vs : List V} {i : Int} {z : P} (r : RepL G H ι xs vs) (h : atI xs i = some z) : ∃ v, atI vs i = some v ∧ Rep G H ι z v := by
  unfold atI at h ⊢
  rw [r.length] at h
  obtain ⟨j, hj, e⟩ := Option.bind_eq_some_iff.mp h
  obtain ⟨v, ev, rv⟩ := r.get e
  exact ⟨v, by rw [hj]; exact ev, rv⟩
section
variable {X : Cx}
/-- a subscript of a dict by values -/
theorem ix_of {T id : String} {value slice : Expr} {pins : List (Addr × Obj)} {s : Shared} {σ : L2.St} {Q : VK} {v u : Value} (hl : typeLookup (.type T) "__getitem__" = pure (some (.builtin id))) (hT : s.TypeIs v T)
    (hs : subscripted slice false v u = operate [v, u] (getItem v u)) (h : wpAny (model X.prog X.w) X.A (getItem v u) (EP X pins σ Q) X.xe s) : wpAny (model X.prog X.w) X.A (subscriptTail value slice v u) (EP X pins σ Q) X.xe s := by
  unfold subscriptTail
  refine wpAny_bind ?_
  rw [getitemInPython_of_ne hT.not_modules]
  refine wpAny_bind (wpAny_specialOf hT hl ?_)
  have last : wpAny (model X.prog X.w) X.A (subscripted slice false v u) (fun r s3 => wpAny (model X.prog X.w) X.A (letTemporaryGo value v r >>= fun _ => pure r) (EP X pins σ Q) X.xe s3) X.xe s := by
    rw [hs]
    exact wpAny_operating (thn h fun r s3 h3 => wpAny_bind (wpAny_letTemporaryGo (wpAny_pure h3)))
  first
    | exact wpAny_pure (wpAny_bind last)
    | exact wpAny_bind (wpAny_pure (wpAny_bind last))
    | exact wpAny_bind last
theorem ix_all (hu : X.A.units + 110 < cLine) : IxR X (rP2 X pIx) := by
  intro value slice pins s σ H x y v u Q I rx ry h hs
  obtain ⟨ι, a, b, z, ra, rb, g, fr, q⟩ := h
  unfold pIx at g
  split at g
  · rename_i xs
    split at g
    · rename_i i
      obtain ⟨p, vs, e, t, r⟩ := rn_tup ra
      obtain ⟨w, hw, rw'⟩ := atI_rep r g
      exact ix_tup value slice pins s σ H x y v u Q I rx ry ⟨p, vs, i, w, e, rn_int rb, t.sq, hw, q _ _ (.refl _) rw'⟩ hs
    · cases g
  · rename_i xs
    split at g
    · rename_i i
      obtain ⟨p, vs, e, t, r⟩ := rn_lst ra
      obtain ⟨w, hw, rw'⟩ := atI_rep r g
      exact ix_list value slice pins s σ H x y v u Q I rx ry ⟨p, vs, i, w, e, rn_int rb, .inl t, hw, q _ _ (.refl _) rw'⟩ hs
    · cases g
  · rename_i z'
    split at g
    · rename_i i
      split at g
      · rename_i hz
        obtain ⟨c, hc, e⟩ := Option.map_eq_some_iff.mp g
        subst e
        exact ix_str value slice pins s σ H x y v u Q I rx ry ⟨z', i, c, rn_str ra, rn_int rb, by rw [sizeLine_eq]; exact hz, hc, q _ _ (.refl _) rep_str⟩ hs
      · cases g
    · cases g
  · rename_i ks xs
    obtain ⟨k, hk, g2⟩ := Option.bind_eq_some_iff.mp g
    obtain ⟨p, vs, e, t, hl, r⟩ := rn_dK ra
    subst e
    obtain rfl : v = Value.ref p := rx
    have ey := ky_rep hk rb
    subst ey
    have lv := lookK_val k ks xs vs r
    rw [g2] at lv
    obtain ⟨w, ew, rw'⟩ := lv
    have dg : DGet H p (kV k) (some w) := .inl ⟨_, k, t, rfl, ew.symm⟩
    exact ix_of PySem.F.slot_dict_getitem.lookup (dict_typeIs I dg) hs (d_getItem (by omega) I dg ry fun w' s' I' r' => ⟨w, H, I', r', q _ _ (.refl _) rw'⟩)
  · rename_i ks xs
    split at g
    · rename_i bs
      split at g
      · rename_i hk
        obtain ⟨hk1, hk2⟩ := keyD_of hk
        obtain ⟨p, o, ys, vs, e, t, tb, e1, e2, r1, w, r2⟩ := rn_tabD ra
        subst e
        obtain rfl : v = Value.ref p := rx
        have dd := tab_dict I t tb e1 e2 r1
        have hkey := Rep.key I _ _ _ hk1 (show Rep (gx X) H ι (.tup bs) y from rb) ry
        obtain ⟨c, ws, eb, _, _⟩ := rn_tup rb
        subst eb
        obtain rfl : u = Value.ref c := ry
        have lv := lookT_atKey (X := X) (H := H) (ι := ι) (k := (P.tup bs).nk) e1 w r2
        rw [g] at lv
        obtain ⟨pp, vv, ea, rel, rz⟩ := lv
        have hr : (nestedKind X.prog X.w).room X.A.in1 := by show X.A.units + 1 + 8 < cLine; omega
        refine ix_of PySem.F.slot_dict_getitem.lookup dd.typeIs hs ?_
        exact wpAny_getItem_heap hr ⟨hkey, hk2⟩ dd ea ⟨vv, H, I.tok _, rel, q _ _ (.refl _) rz⟩
      · cases g
    · cases g
  · cases g
variable {W : WX} {a b : Expr} {fa fb : FE} {pos : Pos}
theorem de_ix (hu : X.A.units + 110 < cLine) (ha : DE X W a fa) (hb : DE X W b fb) (hs : PlainIx b := by intro _ _; rfl) : DE X W (.Subscript a b pos) (sOp pIx fa fb) :=
  (pe_ix (ix_all hu) ha hb hs).conv fun σ H Q ⟨δ, m, ι, S, M, h⟩ =>
    ⟨δ, m, ι, S, M, h.seq fun d m1 v H1 ι1 _ s1 M1 r1 h1 => ⟨δ, m1, ι1, S.step s1, M1, h1.seq fun e m2 u H2 ι2 _ s2 M2 r2 h2 => ERP.op2 M2 (r1.step s2) r2 h2⟩⟩
end

/-! ### a[i:j] -/
/-- an end of a slice -/
abbrev FO := DS → Mem → ER (Option Int)
def cut {α : Type} (xs : List α) (lo hi : Option Int) : List α := (xs.drop (HT.sIx xs.length 0 lo)).take (HT.sIx xs.length xs.length hi - HT.sIx xs.length 0 lo)
def pSl (a : P) (lo hi : Option Int) : Option P := match a with
  | .tup xs => some (.tup (cut xs lo hi))
  | .lst xs => some (.lst (cut xs lo hi))
  | _ => none
theorem cut_rep {G : Gx} {H : Hp} {ι : Io} {xs : List P} {vs : List V} (r : RepL G H ι xs vs) (lo hi : Option Int) : RepL G H ι (cut xs lo hi) (cutV vs lo hi) := by
  unfold cut cutV
  rw [r.length]
  exact (r.drop _).take _
theorem cut_all {α : Type} {xs : List α} {lo hi : Option Int} (h : HT.sIx xs.length 0 lo = 0 ∧ HT.sIx xs.length xs.length hi = xs.length) : cut xs lo hi = xs := by
  unfold cut
  rw [h.1, h.2]
  simp
def rSl (X : Cx) : V → Option Int → Option Int → Hp → VK → Prop := fun x lo hi H Q => ∃ ι a z, Rn (gx X) H ι a x ∧ pSl a lo hi = some z ∧ (∀ p, H p = none → ι.fre p) ∧ ∀ v H', Same H H' → Rep (gx X) H' ι z v → Q v H'
def sNoPart : FO := fun _ m => .ok none m
def sPart (fa : FE) : FO := fun δ m => (fa δ m).bind fun d m => match d with
  | .p (.int i) => .ok (some i) m
  | _ => .bad
def tDO (X : Cx) (W : WX) (f : FO) : TO := fun σ H Q => ∃ δ m ι, SRel (gx X) H ι σ δ ∧ MRel (gx X) H ι m ∧ ERP (gx X) W σ ι H (fun _ _ (a : Option Int) b => a = b) (f δ m) Q
abbrev DO (X : Cx) (W : WX) (e : Option Expr) (f : FO) : Prop := PO X e (tDO X W f)
theorem _root_.L2.PO.conv {X : Cx} {e : Option Expr} {t t' : TO} (h : PO X e t) (k : ∀ σ H Q, t' σ H Q → t σ H Q) : PO X e t' := ⟨fun pins s σ H Q I q => h.run pins s σ H Q I (k σ H Q q)⟩
section
variable {X : Cx} {W : WX} {a e : Expr} {lo hi : Option Expr} {fa : FE} {fl fh : FO} {pos p2 : Pos}
theorem do_none : DO X W none sNoPart := po_none.conv fun σ H Q ⟨δ, m, ι, S, M, h⟩ => h none H ι (.refl _ _) M rfl
theorem do_some (ha : DE X W e fa) : DO X W (some e) (sPart fa) := (po_some ha).conv fun σ H Q ⟨δ, m, ι, S, M, h⟩ =>
  ⟨δ, m, ι, S, M, h.seq fun d m1 v H1 ι1 q1 s1 M1 r1 h1 => by
    clear q1
    split at h1
    · rename_i i
      simp only [RepD, Rep] at r1
      exact ⟨i, r1, h1 _ H1 ι1 (.refl _ _) M1 rfl⟩
    · exact h1.elim⟩
theorem sl_all : SlR X (rSl X) := by
  intro pins s σ H x v vl vu lo hi sl Q I rx hs pl pu h
  obtain ⟨ι, a, z, ra, g, fr, q⟩ := h
  unfold pSl at g
  split at g
  · rename_i xs
    cases g
    obtain ⟨p, vs, e, t, r⟩ := rn_tup ra
    refine sl_tupA pins s σ H x v vl vu lo hi sl Q I rx hs pl pu ⟨p, vs, e, t.sq, fun hw => ?_, fun _ n hn => ?_⟩
    · have e2 : cut xs lo hi = xs := cut_all (by rw [r.length]; exact hw)
      rw [e2] at q
      exact q _ _ (.refl _) (rep_tup0 t r)
    · exact q _ _ (Same.upd hn) (rep_tup hn (fr n hn) (cut_rep r lo hi))
  · rename_i xs
    cases g
    obtain ⟨p, vs, e, t, r⟩ := rn_lst ra
    exact sl_list pins s σ H x v vl vu lo hi sl Q I rx hs pl pu ⟨p, vs, e, .inl t, fun n hn => q _ _ (Same.upd hn) (rep_lst hn (fr n hn) (cut_rep r lo hi))⟩
  · cases g
def sSl (fa : FE) (fl fh : FO) : FE := fun δ m => (fa δ m).bind fun d m => (fl δ m).bind fun lo m => (fh δ m).bind fun hi m => op1 (fun a => pSl a lo hi) d m
theorem de_sl (ha : DE X W e fa) (hl : DO X W lo fl) (hh : DO X W hi fh) : DE X W (.Subscript e (.Slice lo hi none p2) pos) (sSl fa fl fh) :=
  (pe_slice sl_all ha hl hh).conv fun σ H Q ⟨δ, m, ι, S, M, h⟩ =>
    ⟨δ, m, ι, S, M, h.seq fun d m1 v H1 ι1 _ s1 M1 r1 h1 => ⟨δ, m1, ι1, S.step s1, M1, h1.seq fun l m2 l' H2 ι2 _ s2 M2 r2 h2 => ⟨δ, m2, ι2, S.step (s1.trans s2), M2, h2.seq fun l3 m3 l3' H3 ι3 _ s3 M3 r3 h3 => by
      subst r2 r3
      obtain ⟨ι, a, z, c1, c2, c3, c4⟩ := ERP.op1 (g := fun a => pSl a l l3) M3 (r1.step (s2.trans s3)) h3
      exact ⟨ι, a, z, c1, c2, c3, c4⟩⟩⟩⟩
end
end DL

set_option Elab.async false
set_option linter.all false
set_option maxRecDepth 100000
/-! The data layer, part e: logic, arguments, displays, calls of built-ins. -/
namespace DL
open PySem PySem.Spec PyProof.Rows L2

/-! ### and, or, not, if -/
section
variable {X : Cx} {W : WX} {a b c : Expr} {rest : List Expr} {fa fb : FE} {ga gb : FB} {pos : Pos}
def sAndB (ga gb : FB) : FB := fun δ m => (ga δ m).bind fun c m => if c = true then gb δ m else .ok false m
def sOrB (ga gb : FB) : FB := fun δ m => (ga δ m).bind fun c m => if c = true then .ok true m else gb δ m
def sNotB (ga : FB) : FB := fun δ m => (ga δ m).bind fun c m => .ok (!c) m
theorem dw_and1 (ha : DB X W a ga) : DWB X W (.BoolOp .And [a] pos) ga := pw_and1 ha
theorem dw_or1 (ha : DB X W a ga) : DWB X W (.BoolOp .Or [a] pos) ga := pw_or1 ha
theorem dw_and (ha : DB X W a ga) (hb : DWB X W (.BoolOp .And (b :: rest) pos) gb) : DWB X W (.BoolOp .And (a :: b :: rest) pos) (sAndB ga gb) :=
  (pw_and ha hb).conv fun σ H Q ⟨δ, m, ι, S, M, h⟩ => ⟨δ, m, ι, S, M, h.seq fun c m1 c' H1 ι1 _ s1 M1 r1 h1 => by
    subst r1
    cases c with
    | true => rw [if_pos rfl] at h1; rw [if_pos rfl]; exact ⟨δ, m1, ι1, S.step s1, M1, h1⟩
    | false => rw [if_neg (by decide)] at h1; rw [if_neg (by decide)]; exact h1 _ H1 ι1 (.refl _ _) M1 rfl⟩
theorem dw_or (ha : DB X W a ga) (hb : DWB X W (.BoolOp .Or (b :: rest) pos) gb) : DWB X W (.BoolOp .Or (a :: b :: rest) pos) (sOrB ga gb) :=
  (pw_or ha hb).conv fun σ H Q ⟨δ, m, ι, S, M, h⟩ => ⟨δ, m, ι, S, M, h.seq fun c m1 c' H1 ι1 _ s1 M1 r1 h1 => by
    subst r1
    cases c with
    | false => rw [if_neg (by decide)] at h1; rw [if_neg (by decide)]; exact ⟨δ, m1, ι1, S.step s1, M1, h1⟩
    | true => rw [if_pos rfl] at h1; rw [if_pos rfl]; exact h1 _ H1 ι1 (.refl _ _) M1 rfl⟩
theorem db_w (h : DWB X W a ga) : DB X W a ga := PW.pt h
theorem db_not (ha : DB X W a ga) : DB X W (.UnaryOp .Not a pos) (sNotB ga) :=
  (pt_not ha).conv fun σ H Q ⟨δ, m, ι, S, M, h⟩ => ⟨δ, m, ι, S, M, h.seq fun c m1 c' H1 ι1 _ s1 M1 r1 h1 => by subst r1; exact h1 _ H1 ι1 (.refl _ _) M1 rfl⟩
/-- .. as values, all but the last bools -/
def sAndV (fa fb : FE) : FE := fun δ m => (fa δ m).bind fun d m => (asB d m).bind fun c m => if c = true then fb δ m else .ok (.p (.bl false)) m
def sOrV (fa fb : FE) : FE := fun δ m => (fa δ m).bind fun d m => (asB d m).bind fun c m => if c = true then .ok (.p (.bl true)) m else fb δ m
def sNotV (fa : FE) : FE := fun δ m => (fa δ m).bind fun d m => (asB d m).bind fun c m => .ok (.p (.bl (!c))) m
theorem de_one {op} (h : DE X W a fa) : DE X W (.BoolOp op [a] pos) fa := pe_one h
theorem asB_ok {d : D} {m m1 : Mem} {c : Bool} (h : asB d m = .ok c m1) : d = .p (.bl c) ∧ m1 = m := by
  unfold asB at h
  split at h
  · injection h with h1 h2
    exact ⟨by rw [h1], h2.symm⟩
  · cases h
theorem asB_not {d : D} {m m1 : Mem} {x : P} (h : asB d m = .ex x m1) : False := by
  unfold asB at h
  split at h <;> cases h
/-- behind a bool -/
theorem ERP.bool {G : Gx} {σ : L2.St} {ι : Io} {H : Hp} {γ ε : Type} {rel' : Hp → Io → γ → ε → Prop} {Q : ε → Hp → Prop} {d : D} {m : Mem} {v : V} {g : Bool → Mem → ER γ} (r : RepD G H ι d v)
    (h : ERP G W σ ι H rel' ((asB d m).bind g) Q) : ∃ c, v = .bl c ∧ ERP G W σ ι H rel' (g c m) Q := by
  unfold asB at h
  split at h
  · rename_i c
    simp only [RepD, Rep] at r
    exact ⟨c, r, h⟩
  · exact h.elim
theorem de_and (ha : DE X W a fa) (hb : DE X W (.BoolOp .And (b :: rest) pos) fb) : DE X W (.BoolOp .And (a :: b :: rest) pos) (sAndV fa fb) :=
  (pe_and ha hb).conv fun σ H Q ⟨δ, m, ι, S, M, h⟩ => ⟨δ, m, ι, S, M, h.seq fun d m1 v H1 ι1 _ s1 M1 r1 h1 => by
    obtain ⟨c, e, h2⟩ := h1.bool r1
    refine ⟨c, e, ?_⟩
    cases c with
    | true => rw [if_pos rfl] at h2; rw [if_pos rfl]; exact ⟨δ, m1, ι1, S.step s1, M1, h2⟩
    | false => rw [if_neg (by decide)] at h2; rw [if_neg (by decide)]; exact h2 _ H1 ι1 (.refl _ _) M1 (by simp [RepD, Rep])⟩
theorem de_or (ha : DE X W a fa) (hb : DE X W (.BoolOp .Or (b :: rest) pos) fb) : DE X W (.BoolOp .Or (a :: b :: rest) pos) (sOrV fa fb) :=
  (pe_or ha hb).conv fun σ H Q ⟨δ, m, ι, S, M, h⟩ => ⟨δ, m, ι, S, M, h.seq fun d m1 v H1 ι1 _ s1 M1 r1 h1 => by
    obtain ⟨c, e, h2⟩ := h1.bool r1
    refine ⟨c, e, ?_⟩
    cases c with
    | false => rw [if_neg (by decide)] at h2; rw [if_neg (by decide)]; exact ⟨δ, m1, ι1, S.step s1, M1, h2⟩
    | true => rw [if_pos rfl] at h2; rw [if_pos rfl]; exact h2 _ H1 ι1 (.refl _ _) M1 (by simp [RepD, Rep])⟩
theorem de_not (ha : DE X W a fa) : DE X W (.UnaryOp .Not a pos) (sNotV fa) :=
  (pe_not ha).conv fun σ H Q ⟨δ, m, ι, S, M, h⟩ => ⟨δ, m, ι, S, M, h.seq fun d m1 v H1 ι1 _ s1 M1 r1 h1 => by
    obtain ⟨c, e, h2⟩ := h1.bool r1
    exact ⟨c, e, h2 _ H1 ι1 (.refl _ _) M1 (by simp [RepD, Rep])⟩⟩
def sIfE (g : FB) (fa fb : FE) : FE := fun δ m => (g δ m).bind fun c m => if c = true then fa δ m else fb δ m
theorem de_if (hc : DB X W c ga) (ha : DE X W a fa) (hb : DE X W b fb) : DE X W (.IfExp c a b pos) (sIfE ga fa fb) :=
  (pe_ifExp hc ha hb).conv fun σ H Q ⟨δ, m, ι, S, M, h⟩ => ⟨δ, m, ι, S, M, h.seq fun c m1 c' H1 ι1 _ s1 M1 r1 h1 => by
    subst r1
    cases c with
    | true => rw [if_pos rfl] at h1; rw [if_pos rfl]; exact ⟨δ, m1, ι1, S.step s1, M1, h1⟩
    | false => rw [if_neg (by decide)] at h1; rw [if_neg (by decide)]; exact ⟨δ, m1, ι1, S.step s1, M1, h1⟩⟩
end

/-! ### arguments, displays -/
def sNil : FA := fun _ m => .ok [] m
def sCons (fa : FE) (fr : FA) : FA := fun δ m => (fa δ m).bind fun d m => (fr δ m).bind fun ds m => .ok (d :: ds) m
def allP : List D → Option (List P)
  | [] => some []
  | .p x :: ds => (allP ds).map (x :: ·)
  | _ => none
@[simp] theorem allP_nil : allP [] = some [] := rfl
@[simp] theorem allP_cons (x : P) (ds : List D) : allP (.p x :: ds) = (allP ds).map (x :: ·) := rfl
@[simp] theorem allP_map (xs : List P) : allP (xs.map D.p) = some xs := by
  induction xs with
  | nil => rfl
  | cons x xs ih => rw [List.map_cons, allP_cons, ih]; rfl
theorem allP_rep {G : Gx} {H : Hp} {ι : Io} : ∀ {ds : List D} {xs : List P} {vs : List V}, allP ds = some xs → RepDL G H ι ds vs → RepL G H ι xs vs
  | [], xs, vs, h, r => by
    cases h
    rw [show vs = [] from r]
    exact .nil
  | .p x :: ds, xs, vs, h, r => by
    rw [allP_cons] at h
    obtain ⟨ys, h1, h2⟩ := Option.map_eq_some_iff.mp h
    subst h2
    obtain ⟨v, t, e, r1, r2⟩ := r
    subst e
    exact .cons r1 (allP_rep h1 r2)
  | .ref i :: ds, xs, vs, h, r => by cases h
  | .und :: ds, xs, vs, h, r => by cases h
/-- a value made of the items -/
def mkSeq (f : List P → P) (ds : List D) (m : Mem) : ER D := match allP ds with
  | some xs => if xs.length ≤ 16777216 then .ok (.p (f xs)) m else .bad
  | none => .bad
section
variable {X : Cx} {W : WX} {e : Expr} {es : List Expr} {fa : FE} {fr : FA} {pos : Pos}
theorem da_nil : DA X W [] sNil := pa_nil.conv fun σ H Q ⟨δ, m, ι, S, M, h⟩ => h [] H ι (.refl _ _) M rfl
theorem da_cons (ha : DE X W e fa) (hr : DA X W es fr) (hs : starEach (e :: es) X.env = (false, eval e X.env) :: starEach es X.env := by rfl) : DA X W (e :: es) (sCons fa fr) :=
  (pa_cons ha hr hs).conv fun σ H Q ⟨δ, m, ι, S, M, h⟩ => ⟨δ, m, ι, S, M, h.seq fun d m1 v H1 ι1 _ s1 M1 r1 h1 => ⟨δ, m1, ι1, S.step s1, M1, h1.seq fun ds m2 vs H2 ι2 _ s2 M2 r2 h2 =>
    h2 _ H2 ι2 (.refl _ _) M2 (.cons (r1.step s2) r2)⟩⟩
def sTup (fr : FA) : FE := fun δ m => (fr δ m).bind fun ds m => mkSeq .tup ds m
def sLst (fr : FA) : FE := fun δ m => (fr δ m).bind fun ds m => mkSeq .lst ds m
theorem de_tup {x1} (hr : DA X W es fr) : DE X W (.Tuple es x1 pos) (sTup fr) :=
  (pe_tup hr).conv fun σ H Q ⟨δ, m, ι, S, M, h⟩ => ⟨δ, m, ι, S, M, h.seq fun ds m1 vs H1 ι1 _ s1 M1 r1 h1 => by
    unfold mkSeq at h1
    cases e : allP ds with
    | none => rw [e] at h1; exact h1.elim
    | some xs =>
      rw [e] at h1
      have r := allP_rep e r1
      dsimp only at h1
      split at h1
      · rename_i hl
        refine ⟨by rw [sizeLine_eq, ← r.length]; exact hl, fun p hp => ?_⟩
        exact ERP.fin M1 h1 _ _ (Same.upd hp) (rep_tup hp (M1.fresh hp) r)
      · exact h1.elim⟩
theorem de_lst (hr : DA X W es fr) : DE X W (.List es pos) (sLst fr) :=
  (pe_lst hr).conv fun σ H Q ⟨δ, m, ι, S, M, h⟩ => ⟨δ, m, ι, S, M, h.seq fun ds m1 vs H1 ι1 _ s1 M1 r1 h1 => by
    unfold mkSeq at h1
    cases e : allP ds with
    | none => rw [e] at h1; exact h1.elim
    | some xs =>
      rw [e] at h1
      have r := allP_rep e r1
      dsimp only at h1
      split at h1
      · rename_i hl
        refine ⟨by rw [sizeLine_eq, ← r.length]; exact hl, fun p hp => ?_⟩
        exact ERP.fin M1 h1 _ _ (Same.upd hp) (rep_lst hp (M1.fresh hp) r)
      · exact h1.elim⟩
end

/-! ### new writable objects -/
def Io.add (ι : Io) (p : Addr) : Io := ⟨ι.at_ ++ [some p], ι.hid⟩
theorem add_at {ι : Io} {p a : Addr} {k : Nat} (e : (ι.add p).at_[k]? = some (some a)) : (k < ι.at_.length ∧ ι.at_[k]? = some (some a)) ∨ (k = ι.at_.length ∧ a = p) := by
  unfold Io.add at e
  by_cases hk : k < ι.at_.length
  · rw [List.getElem?_append_left hk] at e; exact .inl ⟨hk, e⟩
  · rw [List.getElem?_append_right (by omega)] at e
    have z : k - ι.at_.length = 0 := by
      cases q : k - ι.at_.length with
      | zero => rfl
      | succ n => rw [q] at e; simp at e
    rw [z] at e
    simp at e
    exact .inr ⟨by omega, e.symm⟩
theorem Step.alloc {ι : Io} {H : Hp} {p : Addr} {u : HO} (h : H p = none) : Step ι H (ι.add p) (upd H p u) where
  len := by simp [Io.add]
  pre := fun i o e l => by
    unfold Io.add at e
    rw [List.getElem?_append_left l] at e
    exact .inl e
  keep := fun b o e _ _ => by rw [upd_ne (ne_of_none e h)]; exact e
  new := fun b e n => by
    rcases List.mem_append.mp e with e | e
    · exact absurd e n
    · have z : b = p := by simpa using e
      rw [z]; exact h
  tbl := fun b ps e => ⟨#[], by rw [upd_ne (ne_of_none e h), e]; simp⟩
  hid := rfl
theorem MRel.alloc {G : Gx} {ι : Io} {H : Hp} {m : Mem} {p : Addr} {u : HO} {o : MO} (M : MRel G H ι m) (h : H p = none) (ho : MObj G (upd H p u) (ι.add p) p o) : MRel G (upd H p u) (ι.add p) (m ++ [some o]) where
  len := by simp [Io.add, M.len]
  inj := fun i j a e1 e2 => by
    have fr := (M.fresh h).1
    rcases add_at e1 with ⟨h1, q1⟩ | ⟨h1, q1⟩
    · rcases add_at e2 with ⟨h2, q2⟩ | ⟨h2, q2⟩
      · exact M.inj i j a q1 q2
      · rw [q2] at q1; exact absurd (List.mem_of_getElem? q1) fr
    · rcases add_at e2 with ⟨h2, q2⟩ | ⟨h2, q2⟩
      · rw [q1] at q2; exact absurd (List.mem_of_getElem? q2) fr
      · omega
  obj := fun i a e => by
    rcases add_at e with ⟨hi, e⟩ | ⟨hi, e⟩
    · obtain ⟨o', q, ob⟩ := M.obj i a e
      obtain ⟨w, hw⟩ := ob.some_
      exact ⟨o', by rw [List.getElem?_append_left (by rw [← M.len]; exact hi)]; exact q, ob.to (.alloc h) (upd_ne (ne_of_none hw h))⟩
    · subst e
      have hz : i = m.length := by have := M.len; omega
      exact ⟨o, by rw [hz]; simp, ho⟩
  gon := fun i e => by
    by_cases hi : i < ι.at_.length
    · unfold Io.add at e
      rw [List.getElem?_append_left hi] at e
      rw [List.getElem?_append_left (by rw [← M.len]; exact hi)]
      exact M.gon i e
    · unfold Io.add at e
      rw [List.getElem?_append_right (by omega)] at e
      have z : i - ι.at_.length = 0 := by
        cases q : i - ι.at_.length with
        | zero => rfl
        | succ n => rw [q] at e; simp at e
      rw [z] at e
      simp at e
  hid := fun a e => by
    obtain ⟨⟨u, hu⟩, n⟩ := M.hid a e
    refine ⟨⟨u, by rw [upd_ne (ne_of_none hu h)]; exact hu⟩, fun z => ?_⟩
    rcases List.mem_append.mp z with z | z
    · exact n z
    · have z : a = p := by simpa using z
      rw [z, h] at hu; cases hu
section
variable {X : Cx} {W : WX} {e : Expr} {es : List Expr} {fa : FE} {fr : FA} {pos : Pos} {σ : L2.St} {ι : Io} {H : Hp} {m : Mem} {Q : VK}
theorem ERP.alloc {o : MO} {p : Addr} {u : HO} (M : MRel (gx X) H ι m) (hp : H p = none) (ho : MObj (gx X) (upd H p u) (ι.add p) p o)
    (h : ERP (gx X) W σ ι H (fun H ι => RepD (gx X) H ι) (.ok (.ref m.length) (m ++ [some o])) Q) : Q (.ref p) (upd H p u) :=
  h _ _ _ (.alloc hp) (M.alloc hp ho) ⟨p, rfl, .inl (by rw [← M.len]; simp [Io.add])⟩
/-- a list that will be written to -/
def mkLst (ds : List D) (m : Mem) : ER D := match allP ds with
  | some xs => if xs.length ≤ 16777216 then .ok (.ref m.length) (m ++ [some (.lst xs)]) else .bad
  | none => .bad
def sLstM (fr : FA) : FE := fun δ m => (fr δ m).bind fun ds m => mkLst ds m
theorem de_lstM (hr : DA X W es fr) : DE X W (.List es pos) (sLstM fr) :=
  (pe_lst hr).conv fun σ H Q ⟨δ, m, ι, S, M, h⟩ => ⟨δ, m, ι, S, M, h.seq fun ds m1 vs H1 ι1 _ s1 M1 r1 h1 => by
    unfold mkLst at h1
    cases e : allP ds with
    | none => rw [e] at h1; exact h1.elim
    | some xs =>
      rw [e] at h1
      have r := allP_rep e r1
      dsimp only at h1
      split at h1
      · rename_i hl
        refine ⟨by rw [sizeLine_eq, ← r.length]; exact hl, fun p hp => ?_⟩
        exact ERP.alloc (o := .lst xs) M1 hp ⟨vs, upd_same, RepL.step (.alloc hp) _ _ r⟩ h1
      · exact h1.elim⟩
def sDictK : FE := fun _ m => .ok (.ref m.length) (m ++ [some (.dK [] [])])
theorem de_dictK : DE X W (.Dict [] [] pos) sDictK := pe_dnewK.conv fun σ H Q ⟨δ, m, ι, S, M, h⟩ p hp =>
  ERP.alloc (o := .dK [] []) M hp ⟨[], upd_same, rfl, .nil⟩ h
end

/-! ### another word for an object of ours -/
/-- an object that may be told otherwise -/
def Turns : HO → Prop
  | .lst _ => True
  | .dK _ => True
  | .dT _ => True
  | .ext _ => True
  | .ins _ _ _ => True
  | _ => False
theorem _root_.L2.Inv.turnTo {X : Cx} {pins : List (Addr × Obj)} {σ : L2.St} {H : Hp} {s : Shared} {a : Addr} {u u' : HO} (I : Inv X pins σ H s) (ha : H a = some u) (tu : Turns u) (ok : ObjOk X.prog X.w (upd H a u') s.heap a u') : Inv X pins σ (upd H a u') s := by
  have nt : ∀ b xs, H b = some (.tup xs) → b ≠ a := fun b xs e z => by rw [z, ha] at e; cases e; exact tu
  have nf : ∀ b o v, H b = some (.frz o v) → b ≠ a := fun b o v e z => by rw [z, ha] at e; cases e; exact tu
  have nb : ∀ b ps, H b = some (.tbl ps) → b ≠ a := fun b ps e z => by rw [z, ha] at e; cases e; exact tu
  have no : ∀ b y, H b = some (.own y) → b ≠ a := fun b y e z => by rw [z, ha] at e; cases e; exact tu
  have nn : ∀ b, H b = none → b ≠ a := fun b e z => by rw [z, ha] at e; cases e
  have J := I.step (h' := s.heap) (H' := upd H a u') (g' := s.gens) (d' := s.drawn) (t' := s.toks) (ch := []) (fun b hb => nomatch hb) (fun b o _ _ _ e _ => e) (fun b o _ _ _ e _ => ⟨o.slots, e⟩) (fun b o _ e n => by rw [upd_ne (nn b n)]; exact n)
    (fun b o _ e => ⟨o, e⟩) (fun b xs e => by rw [upd_ne (nt b xs e)]; exact e) (fun b o v e => by rw [upd_ne (nf b o v e)]; exact e) (fun b ps e => ⟨#[], by rw [upd_ne (nb b ps e), e]; simp⟩) (fun m hm => hm)
    (fun b v e => by
      by_cases hb : b = a
      · subst hb; rw [upd_same] at e; cases e; exact ok
      · rw [upd_ne hb] at e
        exact (I.hok b v e).stay (fun c w _ q => q) (fun c q => by rw [upd_ne (no c b q)]; exact q) fun c xs q => by rw [upd_ne (nt c xs q)]; exact q) I.bare
  exact J
theorem there_of {P : Program} {w : World} {H : Hp} {h : Heap} {a : Addr} {u : HO} (tu : Turns u) (x : ObjOk P w H h a u) : ∃ o, h.get? a = some o := by
  cases u with
  | lst xs => obtain ⟨_, _, _, _, e⟩ := x; exact ⟨_, e⟩
  | dK kvs => obtain ⟨_, _, _, _, o, _, _, e, _⟩ := x; exact ⟨_, e⟩
  | dT kvs => obtain ⟨_, _, _, _, o, _, _, e, _⟩ := x; exact ⟨_, e⟩
  | ins C dx fs => obtain ⟨_, _, _, e, _⟩ := x; exact ⟨_, e⟩
  | ext f => exact x.2.1
  | _ => exact tu.elim
/-- the object's exact form is known from now on, and nobody writes to it -/
theorem _root_.L2.Inv.freeze {X : Cx} {pins : List (Addr × Obj)} {σ : L2.St} {H : Hp} {s : Shared} {a : Addr} {u : HO} (I : Inv X pins σ H s) (ha : H a = some u) (tu : Turns u) : ∃ o, s.heap.get? a = some o ∧ Inv X pins σ (upd H a (.frz o u)) s := by
  have ok : ObjOk X.prog X.w H s.heap a u := I.hok a u ha
  obtain ⟨o, ho⟩ := there_of tu ok
  refine ⟨o, ho, I.turnTo ha tu ⟨ho, ok.stay (fun _ _ _ q => q) (fun b q => ?_) fun b xs q => ?_⟩⟩
  · rw [upd_ne (fun z => by rw [z, ha] at q; cases q; exact tu)]; exact q
  · rw [upd_ne (fun z => by rw [z, ha] at q; cases q; exact tu)]; exact q
end DL

set_option Elab.async false
set_option linter.all false
set_option maxRecDepth 100000
/-! The data layer, part f: freezing, dicts written, calls of built-ins. -/
namespace DL
open PySem PySem.Spec PyProof.Rows L2

/-! ### freezing -/
def tFz (t : TE) : TE := fun σ H Q => t σ H fun v H1 => Q v H1 ∨ ∃ a u, v = .ref a ∧ H1 a = some u ∧ Turns u ∧ ∀ o, (∀ o', u = ExactO a o' → o = o') → Q v (upd H1 a (.frz o u))
theorem pe_fz {X : Cx} {e : Expr} {t : TE} (h : PE X e t) : PE X e (tFz t) := ⟨fun pins s σ H Q I q => thn (h.run pins s σ H _ I q) fun u s1 ⟨v, H1, I1, r1, q1⟩ => by
  rcases q1 with q1 | ⟨a, ho, ev, ea, tu, q1⟩
  · exact ⟨v, H1, I1, r1, q1⟩
  · obtain ⟨o, ho', I2⟩ := I1.freeze ea tu
    refine ⟨v, _, I2, r1, q1 o fun o' z => ?_⟩
    have ok : ObjOk X.prog X.w H1 s1.heap a ho := I1.hok a _ ea
    subst z
    exact Option.some.inj (ho'.symm.trans ok.1)⟩
def Io.del (ι : Io) (i : Nat) : Io := ⟨ι.at_.set i none, ι.hid⟩
def fzO : Option (Option MO) → Option P
  | some (some (.lst xs)) => some (.lst xs)
  | some (some (.dK ks xs)) => some (.dK ks xs)
  | some (some (.dT ks xs)) => some (.dT ks xs)
  | _ => none
/-- the object is a value from now on -/
def fzD (d : D) (m : Mem) : ER D := match d with
  | .p x => .ok (.p x) m
  | .ref i => (match fzO m[i]? with
    | some x => .ok (.p x) (m.set i none)
    | none => .bad)
  | .und => .bad
section
variable {G : Gx} {ι : Io} {H : Hp} {m : Mem} {i : Nat} {a : Addr} {u : HO} {o : Obj}
theorem del_at {j : Nat} {b : Addr} (e : (ι.del i).at_[j]? = some (some b)) : i ≠ j ∧ ι.at_[j]? = some (some b) := by
  unfold Io.del at e
  by_cases z : i = j
  · subst z
    have l := (List.getElem?_eq_some_iff.mp e).1
    rw [List.getElem?_set_self (by simpa using l)] at e
    cases e
  · rw [List.getElem?_set_ne z] at e
    exact ⟨z, e⟩
theorem Step.fz (h : H a = some u) (tu : Turns u) (hi : ι.at_[i]? = some (some a)) : Step ι H (ι.del i) (upd H a (.frz o u)) where
  len := by simp [Io.del]
  pre := fun j q e l => by
    unfold Io.del at e
    by_cases hj : i = j
    · subst hj
      rw [List.getElem?_set_self l] at e
      cases e
      exact .inr rfl
    · rw [List.getElem?_set_ne hj] at e; exact .inl e
  keep := fun b q e n _ => by rw [upd_ne (fun z => n (by rw [z]; exact List.mem_of_getElem? hi))]; exact e
  new := fun b e n => by
    obtain ⟨j, hj, q⟩ := List.mem_iff_getElem.mp e
    have q' := del_at (show (ι.del i).at_[j]? = some (some b) by rw [List.getElem?_eq_getElem hj, q])
    exact absurd (List.mem_of_getElem? q'.2) n
  tbl := fun b ps e => ⟨#[], by rw [upd_ne (fun z => by rw [z, h] at e; cases e; exact tu), e]; simp⟩
  hid := rfl
theorem MRel.fz (M : MRel G H ι m) (h : H a = some u) (tu : Turns u) (hi : ι.at_[i]? = some (some a)) : MRel G (upd H a (.frz o u)) (ι.del i) (m.set i none) where
  len := by simp [Io.del, M.len]
  inj := fun j k b e1 e2 => M.inj j k b (del_at e1).2 (del_at e2).2
  obj := fun j b e => by
    obtain ⟨z, e⟩ := del_at e
    obtain ⟨o', q, ob⟩ := M.obj j b e
    exact ⟨o', by rw [List.getElem?_set_ne z]; exact q, ob.to (.fz h tu hi) (upd_ne fun w => z (M.inj i j a hi (by rw [← w]; exact e)))⟩
  gon := fun j e => by
    by_cases z : i = j
    · subst z
      have l : i < m.length := by rw [← M.len]; exact (List.getElem?_eq_some_iff.mp hi).1
      rw [List.getElem?_set_self l]
    · unfold Io.del at e
      rw [List.getElem?_set_ne z] at e
      rw [List.getElem?_set_ne z]
      exact M.gon j e
  hid := fun b e => by
    obtain ⟨⟨v, hv⟩, n⟩ := M.hid b e
    have hb : b ≠ a := fun z => n (by rw [z]; exact List.mem_of_getElem? hi)
    refine ⟨⟨v, by rw [upd_ne hb]; exact hv⟩, fun z => ?_⟩
    obtain ⟨j, hj, q⟩ := List.mem_iff_getElem.mp z
    have q' := del_at (show (ι.del i).at_[j]? = some (some b) by rw [List.getElem?_eq_getElem hj, q])
    exact n (List.mem_of_getElem? q'.2)
theorem MRel.notIn (M : MRel G H ι m) (hi : ι.at_[i]? = some (some a)) : (ι.del i).fre a := by
  refine ⟨fun e => ?_, fun e => ?_⟩
  · obtain ⟨j, hj, q⟩ := List.mem_iff_getElem.mp e
    obtain ⟨z, q'⟩ := del_at (show (ι.del i).at_[j]? = some (some a) by rw [List.getElem?_eq_getElem hj, q])
    exact z (M.inj i j a hi q')
  · exact (M.hid a e).2 (List.mem_of_getElem? hi)
end
def sFz (fa : FE) : FE := fun δ m => (fa δ m).bind fzD
section
variable {X : Cx} {W : WX} {e : Expr} {fa : FE}
theorem de_fz (ha : DE X W e fa) : DE X W e (sFz fa) := (pe_fz ha).conv fun σ H Q ⟨δ, m, ι, S, M, h⟩ => ⟨δ, m, ι, S, M, h.seq fun d m1 v H1 ι1 q1 s1 M1 r1 h1 => by
  clear q1
  unfold fzD at h1
  cases d with
  | und => exact h1.elim
  | p x => exact .inl (h1 v H1 ι1 (.refl _ _) M1 r1)
  | ref i =>
    dsimp only at h1
    cases q : fzO m1[i]? with
    | none => rw [q] at h1; exact h1.elim
    | some x =>
      rw [q] at h1
      obtain ⟨a, ev, lv⟩ := r1
      cases hm : m1[i]? with
      | none => rw [hm] at q; cases q
      | some oo =>
        rw [hm] at q
        cases oo with
        | none => cases q
        | some o =>
          obtain ⟨hi, ob⟩ := M1.live hm lv
          refine .inr ⟨a, ?_⟩
          cases o with
          | lst xs =>
            cases q
            obtain ⟨vs, hH, r⟩ := ob
            refine ⟨_, ev, hH, trivial, fun o ho => ?_⟩
            have st : Step ι1 H1 (ι1.del i) (upd H1 a (.frz o (.lst vs))) := .fz hH trivial hi
            exact h1 v _ _ st (M1.fz hH trivial hi) (by rw [ev]; simp only [RepD, Rep]; exact ⟨a, vs, rfl, .inr ⟨o, upd_same, M1.notIn hi⟩, RepL.step st _ _ r⟩)
          | dK ks xs =>
            cases q
            obtain ⟨vs, hH, l, r⟩ := ob
            refine ⟨_, ev, hH, trivial, fun o ho => ?_⟩
            have st : Step ι1 H1 (ι1.del i) (upd H1 a (.frz o (.dK (ks.zip vs)))) := .fz hH trivial hi
            exact h1 v _ _ st (M1.fz hH trivial hi) (by rw [ev]; simp only [RepD, Rep]; exact ⟨a, o, vs, rfl, ⟨upd_same, M1.notIn hi⟩, l, RepL.step st _ _ r⟩)
          | dT ks xs =>
            cases q
            obtain ⟨o', ys, vs, hH, t, e1, e2, r1, w, r2⟩ := ob
            refine ⟨_, ev, hH, trivial, fun o ho => ?_⟩
            have st : Step ι1 H1 (ι1.del i) (upd H1 a (.frz o (ExactO a o'))) := .fz hH trivial hi
            obtain rfl := ho _ rfl
            exact h1 v _ _ st (M1.fz hH trivial hi) (by rw [ev]; simp only [RepD, Rep]; exact ⟨a, o, ys, vs, rfl, ⟨upd_same, M1.notIn hi⟩, t, e1, e2, RepL.step st _ _ r1, w, RepL.step st _ _ r2⟩)
          | ins C ns ds => cases q⟩
end
end DL

set_option Elab.async false
set_option linter.all false
set_option maxRecDepth 100000
/-! The data layer, part g: targets, what is walked, loops. -/
namespace DL
open PySem PySem.Spec PyProof.Rows L2

/-! ### targets -/
abbrev FG := D → DS → Option DS
abbrev FGs := List P → DS → Option DS
def gN (i : Nat) : FG := fun d δ => match d with
  | .und => none
  | d => if i < δ.length then some (δ.set i d) else none
def gT (n : Nat) (gs : FGs) : FG := fun d δ => match d with
  | .p (.tup xs) => if xs.length = n then gs xs δ else none
  | _ => none
def gsN : FGs := fun xs δ => if xs = [] then some δ else none
def gsC (g : FG) (gs : FGs) : FGs := fun xs δ => match xs with
  | x :: r => (g (.p x) δ).bind (gs r)
  | [] => none
theorem SRel.set {G : Gx} {H : Hp} {ι : Io} {σ : L2.St} {δ : DS} {d : D} {v : V} (S : SRel G H ι σ δ) (r : RepD G H ι d v) (i : Nat) : SRel G H ι (σ.set i (some v)) (δ.set i d) where
  len := by rw [List.length_set, List.length_set]; exact S.len
  at_ := fun j e h n => by
    by_cases z : i = j
    · subst z
      have l : i < δ.length := by have := (List.getElem?_eq_some_iff.mp h).1; simpa using this
      rw [List.getElem?_set_self l] at h
      cases h
      exact ⟨v, by rw [List.getElem?_set_self (by rw [S.len]; exact l)], r⟩
    · rw [List.getElem?_set_ne z] at h
      obtain ⟨v', h1, h2⟩ := S.at_ j e h n
      exact ⟨v', by rw [List.getElem?_set_ne z]; exact h1, h2⟩
/-- slots outside is stay -/
structure Sto (is : List Nat) (σ σ' : L2.St) : Prop where
  len : σ'.length = σ.length
  out : ∀ j, j ∉ is → σ'[j]? = σ[j]?
theorem Sto.trans {is js : List Nat} {a b c : L2.St} (h : Sto is a b) (k : Sto js b c) : Sto (is ++ js) a c := ⟨k.len.trans h.len, fun j n => (k.out j fun z => n (List.mem_append_right _ z)).trans (h.out j fun z => n (List.mem_append_left _ z))⟩
def tDG (X : Cx) (f : FG) (is : List Nat) : TG := fun v σ H Q => ∃ δ ι d δ', SRel (gx X) H ι σ δ ∧ RepD (gx X) H ι d v ∧ f d δ = some δ' ∧ ∀ σ', SRel (gx X) H ι σ' δ' → Sto is σ σ' → Q σ' H
def tDGs (X : Cx) (f : FGs) (is : List Nat) : TGs := fun vs σ H Q => ∃ δ ι xs δ', SRel (gx X) H ι σ δ ∧ RepL (gx X) H ι xs vs ∧ f xs δ = some δ' ∧ ∀ σ', SRel (gx X) H ι σ' δ' → Sto is σ σ' → Q σ' H
abbrev DG (X : Cx) (t : Expr) (f : FG) (is : List Nat) : Prop := PG X t (tDG X f is)
abbrev DGs (X : Cx) (ts : List Expr) (f : FGs) (is : List Nat) : Prop := PGs X ts (tDGs X f is)
theorem _root_.L2.PG.conv {X : Cx} {e : Expr} {t t' : TG} (h : PG X e t) (k : ∀ v σ H Q, t' v σ H Q → t v σ H Q) : PG X e t' := ⟨fun pins s σ H v u Q I r q => h.run pins s σ H v u Q I r (k v σ H Q q)⟩
theorem _root_.L2.PGs.conv {X : Cx} {e : List Expr} {t t' : TGs} (h : PGs X e t) (k : ∀ v σ H Q, t' v σ H Q → t v σ H Q) : PGs X e t' := ⟨fun pins s σ H v u Q I r q => h.run pins s σ H v u Q I r (k v σ H Q q)⟩
section
variable {X : Cx} {pos : Pos} {e : Expr} {es : List Expr} {f : FG} {fs : FGs} {is js : List Nat}
theorem dg_name {i : Nat} {x : Str} (hN : X.N.Nodup) (hi : X.N[i]? = some x := by rfl) (hx : Loc X.env.scope x := by first | exact Or.inl rfl | exact Or.inr rfl) (hf : X.fn x = true ∨ X.env.scope.names.lookup x = some .local := by first | exact .inl rfl | exact .inr rfl | assumption) :
    DG X (.Name x pos) (gN i) [i] := (pg_name hN hi hx hf).conv fun v σ H Q ⟨δ, ι, d, δ', S, r, e, h⟩ => by
  unfold gN at e
  have key : (if i < δ.length then some (δ.set i d) else none) = some δ' := by cases d <;> first | exact e | cases e
  split at key
  · cases key
    exact h _ (S.set r i) ⟨by simp, fun j n => by rw [List.getElem?_set_ne (fun z => n (by simp [z]))]⟩
  · cases key
theorem dgs_nil : DGs X [] gsN [] := pgs_nil.conv fun vs σ H Q ⟨δ, ι, xs, δ', S, r, e, h⟩ => by
  unfold gsN at e
  split at e
  · rename_i z
    cases e
    subst z
    simp only [RepL] at r
    exact ⟨r, h σ S ⟨rfl, fun _ _ => rfl⟩⟩
  · cases e
theorem dgs_cons (h1 : DG X e f is) (h2 : DGs X es fs js) (hs : (assignEach (e :: es) X.env).map (·.2) = assign e X.env :: (assignEach es X.env).map (·.2) := by rfl) : DGs X (e :: es) (gsC f fs) (is ++ js) :=
  (pgs_cons h1 h2 hs).conv fun vs σ H Q ⟨δ, ι, xs, δ', S, r, e, h⟩ => by
    cases xs with
    | nil => cases e
    | cons x xs =>
      simp only [RepL] at r
      obtain ⟨v, vr, ev, r1, r2⟩ := r
      obtain ⟨δ1, e1, e2⟩ := Option.bind_eq_some_iff.mp e
      exact ⟨v, vr, ev, δ, ι, .p x, δ1, S, r1, e1, fun σ1 S1 t1 => ⟨δ1, ι, xs, δ', S1, r2, e2, fun σ2 S2 t2 => h σ2 S2 (t1.trans t2)⟩⟩
theorem StT.lenq {K : PySem.W.Frag} {H : Hp} {ι : Io} {a : Addr} {xs : List V} (h : StT K H ι a xs) : SqT K H a xs := h.sq
theorem dg_tup {k n : Nat} (hc : X.calm = true) (h : DGs X es fs is) (hn : (assignEach es X.env).length = n := by rfl) (hst : (assignEach es X.env).findIdx? (·.1) = none := by rfl) : DG X (.Tuple es k pos) (gT n fs) is :=
  (pg_tup hc h hn hst).conv fun v σ H Q ⟨δ, ι, d, δ', S, r, e, h⟩ => by
    unfold gT at e
    split at e
    · rename_i xs
      split at e
      · rename_i hl
        simp only [RepD, Rep] at r
        obtain ⟨a, vs, ev, t, rl⟩ := r
        exact ⟨a, vs, ev, t.sq, by rw [← rl.length]; exact hl, δ, ι, xs, δ', S, rl, e, h⟩
      · cases e
    · cases e
end

/-! ### what is walked -/
structure Itm where
  items : List P
  ok : Mem → Bool := fun _ => true
abbrev FI := DS → Mem → ER Itm
/-- J walks the items as long as ok -/
def ItR (G : Gx) (H0 : Hp) (ι0 : Io) (it : Itm) (J : It) : Prop := ∀ ι H m, Mv ι0 H0 ι H → MRel G H ι m → it.ok m = true →
  (∀ (i : Nat) (x : P), it.items[i]? = some x → J.go i H ∧ ∀ v H', J.yld i H v H' → Same H H' ∧ Rep G H' ι x v) ∧ J.stop it.items.length H
def tDI (X : Cx) (W : WX) (f : FI) : TI := fun σ H R => ∃ δ m ι, SRel (gx X) H ι σ δ ∧ MRel (gx X) H ι m ∧ ERP (gx X) W σ ι H (fun H ι => ItR (gx X) H ι) (f δ m) R
abbrev DI (X : Cx) (W : WX) (tg e : Expr) (f : FI) : Prop := PI X tg e (tDI X W f)
theorem _root_.L2.PI.conv {X : Cx} {tg e : Expr} {t t' : TI} (h : PI X tg e t) (k : ∀ σ H R, t' σ H R → t σ H R) : PI X tg e t' := ⟨fun pins s σ H R I q => h.run pins s σ H R I (k σ H R q)⟩
theorem Mv.refl (ι : Io) (H : Hp) : Mv ι H ι H := (Step.refl ι H).mv
/-- lists, tuples, texts -/
def iAny (K : PySem.W.Frag) (tl : TE) : TI := fun σ H R => tl σ H fun x H1 => (∃ a, x = .ref a ∧ (∃ xs, SqL K H1 a xs) ∧ R (Itl K a) H1) ∨ (∃ a, x = .ref a ∧ (∃ xs, SqT K H1 a xs) ∧ R (Itt K a) H1) ∨ ∃ z, x = .str z ∧ R (Its z) H1
theorem pi_any {X : Cx} {tg l : Expr} {tl : TE} (hl : PE X l tl) : PI X tg l (iAny X.K tl) := by
  refine ⟨fun pins s σ H R I h => ?_⟩
  refine thn (hl.run pins s σ H _ I h) fun v s1 ⟨x, H1, I1, r1, q1⟩ => ?_
  rcases q1 with ⟨a, e, ⟨xs, hq⟩, q⟩ | ⟨a, e, ⟨xs, hq⟩, q⟩ | ⟨z, e, q⟩
  · subst e
    cases r1
    obtain ⟨its, rv, p, hz⟩ := I1.list hq
    refine wpAny_pyIter_list p.isList ?_
    refine ⟨s1.heap.objs.size, [s1.heap.objs.size], _, _, H1, rfl, I1.kept (t' := s1.toks) fun b o e => Heap.get?_push_of_some _ e, turn_list a _, ⟨_, Heap.get?_push_size _ rfl, rfl, rfl⟩, fun b hb => ?_, q⟩
    have e : b = s1.heap.objs.size := by simpa using hb
    subst e
    exact I1.fpOk (Nat.le_refl _) (I1.hok.fresh (Nat.le_refl _))
  · subst e
    cases r1
    obtain ⟨its, rv, p, hz⟩ := I1.tuple hq
    refine wpAny_pyIter_tuple (show s1.heap.IsTuple a its.toArray from p) ?_
    refine ⟨s1.heap.objs.size, [s1.heap.objs.size], _, _, H1, rfl, I1.kept (t' := s1.toks) fun b o e => Heap.get?_push_of_some _ e, turn_tuple a _, ⟨_, Heap.get?_push_size _ rfl, rfl, rfl⟩, fun b hb => ?_, q⟩
    have e : b = s1.heap.objs.size := by simpa using hb
    subst e
    exact I1.fpOk (Nat.le_refl _) (I1.hok.fresh (Nat.le_refl _))
  · subst e
    obtain ⟨t, rfl⟩ := r1
    cases ha : z.cps.all (· < 128)
    · exact wpAny_pyIter_wide ha (pi_one (tk := s1.toks) I1 _ (turn_str _ z t "str_iterator" (.inr rfl)) ⟨_, Heap.get?_push_size _ rfl, rfl, rfl⟩ q)
    · exact wpAny_pyIter_ascii ha (pi_one (tk := s1.toks) I1 _ (turn_str _ z t "str_ascii_iterator" (.inl rfl)) ⟨_, Heap.get?_push_size _ rfl, rfl, rfl⟩ q)
/-- a text's letters -/
def letters (z : Str) : List P := z.cps.toList.map fun c => .str ⟨#[c]⟩
def walk (x : P) : Option (List P) := match x with
  | .lst xs => some xs
  | .tup xs => some xs
  | .str z => some (letters z)
  | _ => none
def itOf (d : D) (m : Mem) : Option Itm := match d with
  | .p x => (walk x).map fun xs => ⟨xs, fun _ => true⟩
  | .ref i => (match seen m[i]? with
    | some (.lst xs) => some ⟨xs, fun m => decide (seen m[i]? = some (.lst xs))⟩
    | _ => none)
  | .und => none
theorem itr_list {G : Gx} {H0 : Hp} {ι0 : Io} {it : Itm} {a : Addr} (h : ∀ ι H m, Mv ι0 H0 ι H → MRel G H ι m → it.ok m = true → ∃ vs, SqL G.K H a vs ∧ RepL G H ι it.items vs) :
    ItR G H0 ι0 it (Itl G.K a) := fun ι H m s M ok => by
  obtain ⟨vs, q, r⟩ := h ι H m s M ok
  refine ⟨fun i x e => ?_, ⟨vs, q, by rw [r.length]; exact Nat.le_refl _⟩⟩
  obtain ⟨v, ev, rv⟩ := r.get e
  refine ⟨⟨vs, v, q, ev⟩, fun w H' ⟨e1, e2⟩ => ?_⟩
  subst e1
  have z := e2 vs q
  rw [ev] at z; cases z
  exact ⟨.refl _, rv⟩
theorem itr_tup {G : Gx} {H0 : Hp} {ι0 : Io} {it : Itm} {a : Addr} (h : ∀ ι H m, Mv ι0 H0 ι H → MRel G H ι m → it.ok m = true → ∃ vs, SqT G.K H a vs ∧ RepL G H ι it.items vs) :
    ItR G H0 ι0 it (Itt G.K a) := fun ι H m s M ok => by
  obtain ⟨vs, q, r⟩ := h ι H m s M ok
  refine ⟨fun i x e => ?_, ⟨vs, q, by rw [r.length]; exact Nat.le_refl _⟩⟩
  obtain ⟨v, ev, rv⟩ := r.get e
  refine ⟨⟨vs, v, q, ev⟩, fun w H' ⟨e1, e2⟩ => ?_⟩
  subst e1
  have z := e2 vs q
  rw [ev] at z; cases z
  exact ⟨.refl _, rv⟩
theorem itr_str {G : Gx} {H0 : Hp} {ι0 : Io} {z : Str} {ok : Mem → Bool} : ItR G H0 ι0 ⟨letters z, ok⟩ (Its z) := fun ι H m s M _ => by
  refine ⟨fun i x e => ?_, ?_⟩
  · have e' : (z.cps.toList.map fun c => P.str ⟨#[c]⟩)[i]? = some x := e
    rw [List.getElem?_map, Option.map_eq_some_iff] at e'
    obtain ⟨c, h1, h2⟩ := e'
    rw [Array.getElem?_toList] at h1
    refine ⟨(Array.getElem?_eq_some_iff.mp h1).1, fun w H' ⟨e1, c', e2, e3⟩ => ?_⟩
    subst e1
    rw [h1] at e2; cases e2
    refine ⟨.refl _, ?_⟩
    subst h2 e3
    exact rep_str
  · show z.cps.size ≤ (z.cps.toList.map fun c => P.str ⟨#[c]⟩).length
    simp
/-- the list at a, as the item's own words tell it -/
theorem it_src {G : Gx} {H0 : Hp} {ι0 : Io} {m0 : Mem} {d : D} {v : V} {it : Itm} (M0 : MRel G H0 ι0 m0) (r : RepD G H0 ι0 d v) (h : itOf d m0 = some it) :
    (∃ a, v = .ref a ∧ (∃ vs, SqL G.K H0 a vs ∧ RepL G H0 ι0 it.items vs) ∧ ∀ ι H m, Mv ι0 H0 ι H → MRel G H ι m → it.ok m = true → ∃ vs, SqL G.K H a vs ∧ RepL G H ι it.items vs) ∨
    (∃ a, v = .ref a ∧ (∃ vs, SqT G.K H0 a vs ∧ RepL G H0 ι0 it.items vs) ∧ ∀ ι H m, Mv ι0 H0 ι H → MRel G H ι m → it.ok m = true → ∃ vs, SqT G.K H a vs ∧ RepL G H ι it.items vs) ∨
    ∃ z, v = .str z ∧ it.items = letters z := by
  unfold itOf at h
  cases d with
  | p x =>
    obtain ⟨xs, hx, e⟩ := Option.map_eq_some_iff.mp h
    subst e
    unfold walk at hx
    split at hx
    · cases hx
      simp only [RepD, Rep] at r
      obtain ⟨a, vs, e, t, rl⟩ := r
      exact .inl ⟨a, e, ⟨vs, t.sq, rl⟩, fun ι H m s M _ => ⟨vs, (t.mv s).sq, RepL.mv s _ _ rl⟩⟩
    · cases hx
      simp only [RepD, Rep] at r
      obtain ⟨a, vs, e, t, rl⟩ := r
      exact .inr (.inl ⟨a, e, ⟨vs, t.sq, rl⟩, fun ι H m s M _ => ⟨vs, (t.mv s).sq, RepL.mv s _ _ rl⟩⟩)
    · cases hx
      simp only [RepD, Rep] at r
      exact .inr (.inr ⟨_, r, rfl⟩)
    · cases hx
  | und => cases h
  | ref i =>
    dsimp only at h
    obtain ⟨a, ev, hi⟩ := r
    split at h
    · rename_i xs hs
      cases h
      have key : ∀ {ι : Io} {H : Hp} {m : Mem}, MRel G H ι m → (ι.at_[i]? = some (some a) ∨ ι.at_[i]? = some none) → seen m[i]? = some (.lst xs) → ∃ vs, SqL G.K H a vs ∧ RepL G H ι xs vs := fun {ι H m} M q e => by
        cases hm : m[i]? with
        | none => rw [hm] at e; cases e
        | some o =>
          rw [hm] at e
          cases o with
          | none => cases e
          | some o =>
            cases o with
            | lst ys =>
              have e' : some (P.lst ys) = some (P.lst xs) := e
              cases e'
              obtain ⟨_, vs, hH, rl⟩ := M.live hm q
              exact ⟨vs, .inl (.inl hH), rl⟩
            | dK ks ys =>
              have e' : some (P.dK ks ys) = some (P.lst xs) := e
              cases e'
            | dT ks ys =>
              have e' : some (P.dT ks ys) = some (P.lst xs) := e
              cases e'
            | ins C ns ds => cases e
      refine .inl ⟨a, ev, key M0 hi hs, fun ι H m s M ok => key M ?_ (by simpa using ok)⟩
      have z : RepD G H ι (.ref i) v := RepD.mv (d := .ref i) s ⟨a, ev, hi⟩
      obtain ⟨b, eb, q⟩ := z
      rw [ev] at eb
      cases eb
      exact q
    · cases h
def sIt (fa : FE) : FI := fun δ m => (fa δ m).bind fun d m => match itOf d m with
  | some it => .ok it m
  | none => .bad
section
variable {X : Cx} {W : WX} {tg e e2 : Expr} {es : List Expr} {fa fb : FE} {fr : FA} {p pos tpos : Pos} {elts : List Expr} {kk : Nat}
theorem di_any (ha : DE X W e fa) : DI X W tg e (sIt fa) := (pi_any ha).conv fun σ H R ⟨δ, m, ι, S, M, h⟩ => ⟨δ, m, ι, S, M, h.seq fun d m1 v H1 ι1 q s1 M1 r1 h1 => by
  clear q
  cases q : itOf d m1 with
  | none => rw [q] at h1; exact h1.elim
  | some it =>
    rw [q] at h1
    rcases it_src M1 r1 q with ⟨a, ev, ⟨vs, hq, _⟩, k⟩ | ⟨a, ev, ⟨vs, hq, _⟩, k⟩ | ⟨z, ev, k⟩
    · exact .inl ⟨a, ev, ⟨vs, hq⟩, h1 _ H1 ι1 (.refl _ _) M1 (itr_list k)⟩
    · exact .inr (.inl ⟨a, ev, ⟨vs, hq⟩, h1 _ H1 ι1 (.refl _ _) M1 (itr_tup k)⟩)
    · refine .inr (.inr ⟨z, ev, h1 _ H1 ι1 (.refl _ _) M1 ?_⟩)
      obtain ⟨its, ok⟩ := it
      cases (show its = letters z from k)
      exact itr_str⟩
/-- the numbers from lo -/
def upFrom (lo : Int) (n : Nat) : List P := (List.range n).map fun i => .int (lo + (i : Nat))
theorem itr_rng {G : Gx} {H0 : Hp} {ι0 : Io} {lo : Int} {n : Nat} {ok : Mem → Bool} : ItR G H0 ι0 ⟨upFrom lo n, ok⟩ (Itr lo n) := fun ι H m s M _ => by
  refine ⟨fun i x e => ?_, ?_⟩
  · have e' : ((List.range n).map fun i => P.int (lo + (i : Nat)))[i]? = some x := e
    rw [List.getElem?_map, Option.map_eq_some_iff] at e'
    obtain ⟨c, h1, h2⟩ := e'
    obtain ⟨hl, h1⟩ := List.getElem?_eq_some_iff.mp h1
    rw [List.getElem_range] at h1
    subst h1
    refine ⟨show i < n by simpa using hl, fun w H' ⟨e1, e2⟩ => ?_⟩
    subst e1
    refine ⟨.refl _, ?_⟩
    subst h2 e2
    exact rep_int
  · show n ≤ ((List.range n).map fun i => P.int (lo + (i : Nat))).length
    simp
/-- the ends of a range -/
def rg1 (ds : List D) : Option Int := match ds with
  | [.p (.int j)] => if -(2 ^ 62) ≤ j ∧ j < 2 ^ 62 then some j else none
  | _ => none
def rg2 (ds : List D) : Option (Int × Int) := match ds with
  | [.p (.int i), .p (.int j)] => if -(2 ^ 62) ≤ i ∧ i < 2 ^ 62 ∧ -(2 ^ 62) ≤ j ∧ j < 2 ^ 62 then some (i, j) else none
  | _ => none
def sIt1 (fr : FA) : FI := fun δ m => (fr δ m).bind fun ds m => match rg1 ds with
  | some j => .ok ⟨upFrom 0 j.toNat, fun _ => true⟩ m
  | none => .bad
def sIt2 (fr : FA) : FI := fun δ m => (fr δ m).bind fun ds m => match rg2 ds with
  | some (i, j) => .ok ⟨upFrom i (j - i).toNat, fun _ => true⟩ m
  | none => .bad
theorem rep_d1 {G : Gx} {H : Hp} {ι : Io} {x : P} {vs : List V} (h : RepDL G H ι [.p x] vs) : ∃ v, vs = [v] ∧ Rep G H ι x v := by
  obtain ⟨v, t, e, r, rt⟩ := h
  cases (show t = [] from rt)
  exact ⟨v, e, r⟩
theorem rep_d2 {G : Gx} {H : Hp} {ι : Io} {x y : P} {vs : List V} (h : RepDL G H ι [.p x, .p y] vs) : ∃ v u, vs = [v, u] ∧ Rep G H ι x v ∧ Rep G H ι y u := by
  obtain ⟨v, t, e, r, u, t', e', r', rt⟩ := h
  cases (show t' = [] from rt)
  exact ⟨v, u, by rw [e, e'], r, r'⟩
theorem di_range1 (hm : X.mg "range" = none) (ha : DA X W [e] fr) (hg : Gl X "range" := by rfl) (hs : starEach [e] X.env = [(false, eval e X.env)] := by rfl) : DI X W tg (.Call (.Name "range" p) [e] [] pos) (sIt1 fr) :=
  (pi_range1 hg hm ha hs).conv fun σ H R ⟨δ, m, ι, S, M, h⟩ => ⟨δ, m, ι, S, M, h.seq fun ds m1 vs H1 ι1 q s1 M1 r1 h1 => by
    clear q
    cases q : rg1 ds with
    | none => rw [q] at h1; exact h1.elim
    | some j =>
      rw [q] at h1
      unfold rg1 at q
      split at q
      · rename_i j'
        split at q
        · rename_i hc
          cases q
          obtain ⟨v, e, r⟩ := rep_d1 r1
          simp only [Rep] at r
          subst r e
          exact ⟨j, rfl, hc.1, hc.2, h1 _ H1 ι1 (.refl _ _) M1 itr_rng⟩
        · cases q
      · cases q⟩
theorem di_range2 (hm : X.mg "range" = none) (ha : DA X W [e, e2] fr) (hg : Gl X "range" := by rfl) (hs : starEach [e, e2] X.env = [(false, eval e X.env), (false, eval e2 X.env)] := by rfl) (hs2 : starEach [e2] X.env = [(false, eval e2 X.env)] := by rfl) : DI X W tg (.Call (.Name "range" p) [e, e2] [] pos) (sIt2 fr) :=
  (pi_range2 hg hm ha hs hs2).conv fun σ H R ⟨δ, m, ι, S, M, h⟩ => ⟨δ, m, ι, S, M, h.seq fun ds m1 vs H1 ι1 q s1 M1 r1 h1 => by
    clear q
    cases q : rg2 ds with
    | none => rw [q] at h1; exact h1.elim
    | some ij =>
      rw [q] at h1
      unfold rg2 at q
      split at q
      · rename_i i' j'
        split at q
        · rename_i hc
          cases q
          obtain ⟨v, u, e, r, r'⟩ := rep_d2 r1
          simp only [Rep] at r r'
          subst r r' e
          exact ⟨_, _, rfl, hc, h1 _ H1 ι1 (.refl _ _) M1 itr_rng⟩
        · cases q
      · cases q⟩
end

/-! ### enumerate -/
section
variable {prog : Program} {w : World} {A : Around} {E : Value → Shared → Prop} {s : Shared}
set_option maxHeartbeats 1000000 in
theorem meets_enum_begins {v : Value} {o : Obj} {H : Heap → Prop} (B : Begins v o H) :
    Meets (Builtin.«enumerate.__new__» ⟨[.type "enumerate", v], []⟩) (fun _ R s => H s.heap ∧
      R (.ok (.ret (.ref (s.heap.push o).objs.size))) { s with heap := (s.heap.push o).push { cls := .type "enumerate", data := .fields #[.none, .bool false, .ref s.heap.objs.size, rawInt 0, .none, .none] } }) :=
  .of_wp fun prog w A R s h => by
    obtain ⟨hp, g, d, tk, os⟩ := s; obtain ⟨h1, h⟩ := h
    have hsub := sub_enumerate
    have q1 : ∀ {A' : Around} {E : Value → Shared → Prop} {Q : Value → Shared → Prop}, Q (.ref hp.objs.size) ⟨hp.push o, g, d, tk, os⟩ → wpAny (model prog w) A' (pyIter v) Q E ⟨hp, g, d, tk, os⟩ :=
      fun q => B.iter prog w _ _ ⟨hp, g, d, tk, os⟩ _ h1 q
    wp_walk using q1
    refine wpAny_stack_any fun st => wpAny_pure ?_
    split
    · rename_i c _ _ _ _ _
      cases (c == Value.type "enumerate")
      · wp_walk using q1
        exact ⟨_, rfl, h⟩
      · wp_walk using q1
        exact ⟨_, rfl, h⟩
    · wp_walk using q1
      exact ⟨_, rfl, h⟩
theorem call_enum_begins {v : Value} {o : Obj} {H : Heap → Prop} {Q : Value → Shared → Prop} (B : Begins v o H) (h1 : H s.heap)
    (h : ∀ h', IsEnum h' (s.heap.objs.size + 1) s.heap.objs.size 0 .none → h'.get? s.heap.objs.size = some o → h'.objs.size = s.heap.objs.size + 2 →
      (∀ b o, s.heap.get? b = some o → h'.get? b = some o) → Q (.ref (s.heap.objs.size + 1)) { s with heap := h' }) :
    wpAny (model prog w) A (call (.type "enumerate") [v]) Q E s := by
  refine callType_new F.called_enumerate (by decide) (F.typeCall_enumerate_1 _) (F.newCall_enumerate_1 _) (fun obj => F.args_object_init_2 obj _) F.entry_enumerate_new
    (meets_enum_begins B) ⟨h1, ?_⟩
  have hz : (s.heap.push o).objs.size = s.heap.objs.size + 1 := Heap.size_push ..
  show _ ∧ _
  rw [hz]
  have he : IsEnum ((s.heap.push o).push { cls := .type "enumerate", data := .fields #[.none, .bool false, .ref s.heap.objs.size, rawInt 0, .none, .none] }) (s.heap.objs.size + 1) s.heap.objs.size 0 .none := by
    have := Heap.get?_push_size (s.heap.push o) (o := { cls := .type "enumerate", data := .fields #[.none, .bool false, .ref s.heap.objs.size, rawInt 0, .none, .none] }) rfl
    rw [hz] at this; exact this
  refine ⟨⟨_, he, rfl⟩, h _ he (Heap.get?_push_of_some _ (Heap.get?_push_size _ B.free)) (by rw [Heap.size_push, hz]) fun b o x => Heap.get?_push_of_some _ (Heap.get?_push_of_some _ x)⟩
end
/-- the tuple at a, each item in a new pair -/
def IteT (K : PySem.W.Frag) (a : Addr) : It :=
  ⟨fun i H => ∃ (xs : List V) (x : V), SqT K H a xs ∧ xs[i]? = some x, fun i H v H' => ∃ T x, v = .ref T ∧ H T = none ∧ H' = upd H T (.tup [.int (i : Nat), x]) ∧ ∀ xs, SqT K H a xs → xs[i]? = some x, fun i H => ∃ xs : List V, SqT K H a xs ∧ xs.length = i⟩
theorem turn_enumT {P : Program} {w : World} {K : PySem.W.Frag} {elts : List Expr} {kk : Nat} {tpos : Pos} (a e it : Addr) :
    Turn P w K (.Tuple elts kk tpos) (IteT K a) [e, it] e (fun i h => (∃ old, IsEnum h e it ((i : Nat) : Int) old) ∧ h.IsTupleIter it a i ∧ e ≠ it) where
  mem := by simp
  obj := fun i h st b hb => by
    obtain ⟨⟨old, he⟩, ⟨o, ho, hc, hd⟩, _⟩ := st
    have e' : b = e ∨ b = it := by simpa using hb
    rcases e' with z | z
    · rw [z]; exact ⟨_, he, fun v q => nomatch q⟩
    · rw [z]; exact ⟨o, ho, fun v q => by rw [hd] at q; cases q⟩
  keep := fun i h h' st k => let ⟨⟨old, he⟩, hi, hne⟩ := st; ⟨⟨old, k e (by simp) _ he⟩, hi.at fun o q => k it (by simp) o q, hne⟩
  item := by
    intro X hP hw hK hc i pins s σ H E I hf st hg
    subst hP hw hK
    obtain ⟨⟨old, he⟩, hit, hne⟩ := st
    obtain ⟨xs, x, hq, hx⟩ := hg
    obtain ⟨its, rv, p, hz⟩ := I.tuple hq
    obtain ⟨u, hu, ru⟩ := rv.get hx
    have hel : e < s.heap.objs.size := Heap.lt_size he
    have hil : it < s.heap.objs.size := by obtain ⟨_, q, _⟩ := hit; exact Heap.lt_size q
    have ai : a ≠ it := fun z => by
      obtain ⟨o, h1, h2, n, h3⟩ := id p
      obtain ⟨o', h4, h5, h6⟩ := id hit
      rw [z, h4] at h1; cases h1
      rw [h6] at h3; cases h3
    have ea : e ≠ a := fun z => by
      obtain ⟨o, h1, h2, n, h3⟩ := id p
      have he' : s.heap.get? e = _ := he
      rw [z, h1] at he'; cases he'
      cases h3
    have hh : X.A.in1.handled = none := I.ok.hd hc
    have hxi : its.toArray[i]? = some u := by simpa using hu
    refine wpAny_pyNext_enum_itemC (Draws.tuple hh it a ai its.toArray) he ⟨hit, p⟩ (Array.getElem?_eq_some_iff.mp hxi).1 hne (by simp [hne, ea]) fun x' h' tk hP ho hst' hT hsz hk => ?_
    rw [hxi] at hP
    cases hP
    refine ⟨_, rfl, wpAny_letOwnedTupleGo_enum (s := { s with heap := h', toks := tk + 1 }) ho fun h'' he' sb => ?_⟩
    have hT2 : h''.get? s.heap.objs.size = some { cls := .type "tuple", data := .seq #[.int i tk, u] } := (sb.2 _ (Nat.ne_of_gt hel)).trans hT
    have new : ObjOk X.prog X.w (upd H s.heap.objs.size (.tup [.int (i : Nat), x])) h'' s.heap.objs.size (.tup [.int (i : Nat), x]) :=
      ⟨by show 2 ≤ sizeLine; decide, [.int i tk, u], .cons ⟨_, rfl⟩ (.cons ru .nil), ⟨_, hT2, rfl, _, rfl⟩⟩
    have I1 : Inv X pins σ (upd H s.heap.objs.size (.tup [.int (i : Nat), x])) { s with heap := h'', toks := tk + 1 } :=
      I.turnedNew (ch := [e, it]) (fun b ob hb q => (sb.2 b (fun z => hb (by simp [z]))).trans (hk b ob (fun z => hb (by simp [z])) (fun z => hb (by simp [z])) q)) hf (Nat.le_refl _) new
    refine ⟨.ref s.heap.objs.size, _, I1, rfl, ⟨_, x, rfl, I.hok.fresh (Nat.le_refl _), rfl, fun ys hy => by rw [I.tuple_inj hy hq]; exact hx⟩, ⟨⟨u, ?_⟩, hst'.1.at fun o q => (sb.2 it (Ne.symm hne)).trans q, hne⟩, fun b hb => ?_⟩
    · have e1 : ((i + 1 : Nat) : Int) = (i : Int) + 1 := by omega
      rw [e1]; exact he'
    · have hb' : b < s.heap.objs.size := by
        have e' : b = e ∨ b = it := by simpa using hb
        rcases e' with z | z
        · rw [z]; exact hel
        · rw [z]; exact hil
      rw [upd_ne (Nat.ne_of_lt hb')]
      exact (hf b hb).1
  done := by
    intro X hP hw hK hc i pins s σ H E I hf st hg
    subst hP hw hK
    obtain ⟨⟨old, he⟩, hit, hne⟩ := st
    obtain ⟨xs, hq, hx⟩ := hg
    obtain ⟨its, rv, p, hz⟩ := I.tuple hq
    obtain ⟨f0, f1, f2, f3, f4, f5⟩ := hf it (by simp)
    have hl := rv.length
    have ai : a ≠ it := fun z => by
      obtain ⟨o, h1, h2, n, h3⟩ := id p
      obtain ⟨o', h4, h5, h6⟩ := id hit
      rw [z, h4] at h1; cases h1
      rw [h6] at h3; cases h3
    have hh : X.A.in1.handled = none := I.ok.hd hc
    have hi : i = its.toArray.size := by rw [List.size_toArray, ← hl, hx]
    exact wpAny_pyNext_enum_endD (Draws.tuple hh it a ai its.toArray) he (by rw [← hi]; exact ⟨hit, p⟩) fun h' eb => ⟨rfl, I.turned (t' := s.toks) (fun b o hb q => eb b o hb q) f0 f1 f3 f4 f5⟩
  self := fun A i s Q E st h => let ⟨⟨_, he⟩, _⟩ := st; wpAny_pyIter_enum he h
end DL

set_option Elab.async false
set_option linter.all false
set_option maxRecDepth 100000
/-! The data layer, part h: enumerate, zip, loops, comprehensions. -/
namespace DL
open PySem PySem.Spec PyProof.Rows L2

/-- each with its number -/
def numd (xs : List P) : List P := xs.mapIdx fun i x => .tup [.int (i : Nat), x]
/-- two and two -/
def paird (xs ys : List P) : List P := List.zipWith (fun x y => .tup [x, y]) xs ys
theorem rep_pair {G : Gx} {H : Hp} {ι : Io} {x y : P} {v u : V} {T : Addr} (hT : H T = none) (f : ι.fre T) (r : Rep G H ι x v) (r' : Rep G H ι y u) : Rep G (upd H T (.tup [v, u])) ι (.tup [x, y]) (.ref T) :=
  rep_tup hT f (.cons r (.cons r' .nil))
section
variable {G : Gx} {H0 : Hp} {ι0 : Io} {it it2 : Itm} {a b : Addr}
theorem numd_get {xs : List P} {i : Nat} {z : P} (e : (numd xs)[i]? = some z) : ∃ x, xs[i]? = some x ∧ z = .tup [.int (i : Nat), x] := by
  unfold numd at e
  rw [List.getElem?_mapIdx, Option.map_eq_some_iff] at e
  obtain ⟨x, h1, h2⟩ := e
  exact ⟨x, h1, h2.symm⟩
theorem numd_len (xs : List P) : (numd xs).length = xs.length := by simp [numd]
theorem itr_enum (h : ∀ ι H m, Mv ι0 H0 ι H → MRel G H ι m → it.ok m = true → ∃ vs, SqL G.K H a vs ∧ RepL G H ι it.items vs) : ItR G H0 ι0 ⟨numd it.items, it.ok⟩ (Ite G.K a) := fun ι H m s M ok => by
  obtain ⟨vs, q, r⟩ := h ι H m s M ok
  refine ⟨fun i z e => ?_, ⟨vs, q, by rw [← r.length]; exact Nat.le_of_eq (numd_len _).symm⟩⟩
  obtain ⟨x, ex, ez⟩ := numd_get e
  obtain ⟨v, ev, rv⟩ := r.get ex
  refine ⟨⟨vs, v, q, ev⟩, fun w H' ⟨T, u, e1, hT, e2, e3⟩ => ?_⟩
  have z' := e3 vs q
  rw [ev] at z'; cases z'
  subst e1 e2 ez
  exact ⟨Same.upd hT, rep_pair hT (M.fresh hT) rep_int rv⟩
theorem itr_enumT (h : ∀ ι H m, Mv ι0 H0 ι H → MRel G H ι m → it.ok m = true → ∃ vs, SqT G.K H a vs ∧ RepL G H ι it.items vs) : ItR G H0 ι0 ⟨numd it.items, it.ok⟩ (IteT G.K a) := fun ι H m s M ok => by
  obtain ⟨vs, q, r⟩ := h ι H m s M ok
  refine ⟨fun i z e => ?_, ⟨vs, q, by rw [← r.length]; exact (numd_len _).symm⟩⟩
  obtain ⟨x, ex, ez⟩ := numd_get e
  obtain ⟨v, ev, rv⟩ := r.get ex
  refine ⟨⟨vs, v, q, ev⟩, fun w H' ⟨T, u, e1, hT, e2, e3⟩ => ?_⟩
  have z' := e3 vs q
  rw [ev] at z'; cases z'
  subst e1 e2 ez
  exact ⟨Same.upd hT, rep_pair hT (M.fresh hT) rep_int rv⟩
theorem paird_get {xs ys : List P} {i : Nat} {z : P} (e : (paird xs ys)[i]? = some z) : ∃ x y, xs[i]? = some x ∧ ys[i]? = some y ∧ z = .tup [x, y] := by
  unfold paird at e
  rw [List.getElem?_zipWith] at e
  cases hx : xs[i]? with
  | none => rw [hx] at e; simp at e
  | some x =>
    cases hy : ys[i]? with
    | none => rw [hx, hy] at e; simp at e
    | some y => rw [hx, hy] at e; simp at e; exact ⟨x, y, rfl, rfl, e.symm⟩
theorem paird_len (xs ys : List P) : (paird xs ys).length = min xs.length ys.length := by simp [paird]
theorem itr_zip (h : ∀ ι H m, Mv ι0 H0 ι H → MRel G H ι m → it.ok m = true → ∃ vs, SqL G.K H a vs ∧ RepL G H ι it.items vs)
    (h2 : ∀ ι H m, Mv ι0 H0 ι H → MRel G H ι m → it2.ok m = true → ∃ vs, SqL G.K H b vs ∧ RepL G H ι it2.items vs) : ItR G H0 ι0 ⟨paird it.items it2.items, fun m => it.ok m && it2.ok m⟩ (Itz G.K a b) := fun ι H m s M ok => by
  have ok' := Bool.and_eq_true_iff.mp ok
  obtain ⟨vs, q, r⟩ := h ι H m s M ok'.1
  obtain ⟨us, q', r'⟩ := h2 ι H m s M ok'.2
  refine ⟨fun i z e => ?_, ⟨vs, us, q, q', ?_⟩⟩
  · obtain ⟨x, y, ex, ey, ez⟩ := paird_get e
    obtain ⟨v, ev, rv⟩ := r.get ex
    obtain ⟨u, eu, ru⟩ := r'.get ey
    refine ⟨⟨vs, us, v, u, q, q', ev, eu⟩, fun w H' ⟨T, v', u', e1, hT, e2, e3, e4⟩ => ?_⟩
    have z1 := e3 vs q
    have z2 := e4 us q'
    rw [ev] at z1; cases z1
    rw [eu] at z2; cases z2
    subst e1 e2 ez
    exact ⟨Same.upd hT, rep_pair hT (M.fresh hT) rv ru⟩
  · have e1 := r.length
    have e2 := r'.length
    have e3 := paird_len it.items it2.items
    show vs.length ≤ (paird it.items it2.items).length ∨ us.length ≤ (paird it.items it2.items).length
    omega
theorem itr_zipT (h : ∀ ι H m, Mv ι0 H0 ι H → MRel G H ι m → it.ok m = true → ∃ vs, SqT G.K H a vs ∧ RepL G H ι it.items vs)
    (h2 : ∀ ι H m, Mv ι0 H0 ι H → MRel G H ι m → it2.ok m = true → ∃ vs, SqT G.K H b vs ∧ RepL G H ι it2.items vs) : ItR G H0 ι0 ⟨paird it.items it2.items, fun m => it.ok m && it2.ok m⟩ (RZ.ItzT G.K a b) := fun ι H m s M ok => by
  have ok' := Bool.and_eq_true_iff.mp ok
  obtain ⟨vs, q, r⟩ := h ι H m s M ok'.1
  obtain ⟨us, q', r'⟩ := h2 ι H m s M ok'.2
  refine ⟨fun i z e => ?_, ⟨vs, us, q, q', ?_⟩⟩
  · obtain ⟨x, y, ex, ey, ez⟩ := paird_get e
    obtain ⟨v, ev, rv⟩ := r.get ex
    obtain ⟨u, eu, ru⟩ := r'.get ey
    refine ⟨⟨vs, us, v, u, q, q', ev, eu⟩, fun w H' ⟨T, v', u', e1, hT, e2, e3, e4⟩ => ?_⟩
    have z1 := e3 vs q
    have z2 := e4 us q'
    rw [ev] at z1; cases z1
    rw [eu] at z2; cases z2
    subst e1 e2 ez
    exact ⟨Same.upd hT, rep_pair hT (M.fresh hT) rv ru⟩
  · have e1 := r.length
    have e2 := r'.length
    have e3 := paird_len it.items it2.items
    show vs.length ≤ (paird it.items it2.items).length ∨ us.length ≤ (paird it.items it2.items).length
    omega
end
/-- enumerate of a list or a tuple -/
def iEnumA (K : PySem.W.Frag) (ta : TA) : TI := fun σ H R => ta σ H fun vs H1 => (∃ a xs, vs = [.ref a] ∧ SqL K H1 a xs ∧ R (Ite K a) H1) ∨ ∃ a xs, vs = [.ref a] ∧ SqT K H1 a xs ∧ R (IteT K a) H1
theorem pi_enumA {X : Cx} {e : Expr} {ta : TA} {p pos tpos : Pos} {elts : List Expr} {kk : Nat} (hg : Gl X "enumerate") (hm : X.mg "enumerate" = none) (ha : PA X [e] ta) (hs : starEach [e] X.env = [(false, eval e X.env)] := by rfl) :
    PI X (.Tuple elts kk tpos) (.Call (.Name "enumerate" p) [e] [] pos) (iEnumA X.K ta) := by
  refine ⟨fun pins s σ H R I h => ?_⟩
  refine Call_ (ld_blt I hg hm PyProof.Rows.boot_enumerate (PyProof.Rows.callWith_type1 (thn (ha.run pos pins s σ H _ I h) fun us s1 ⟨vs, H1, I1, r1, q1⟩ => ?_) hs rfl))
  have fr : ∀ b ∈ [s1.heap.objs.size + 1, s1.heap.objs.size], FpOk X pins H1 b := fun b hb => by
    have e' : b = s1.heap.objs.size + 1 ∨ b = s1.heap.objs.size := by simpa using hb
    have hle : s1.heap.objs.size ≤ b := by
      rcases e' with z | z
      · rw [z]; exact Nat.le_add_right _ _
      · rw [z]; exact Nat.le_refl _
    exact I1.fpOk hle (I1.hok.fresh hle)
  rcases q1 with ⟨a, xs, ex, hq, q⟩ | ⟨a, xs, ex, hq, q⟩
  · subst ex
    cases r1 with
    | cons r rr =>
      cases rr
      cases r
      obtain ⟨its, rv, p', hz⟩ := I1.list hq
      refine call_enumerate_list p'.isList fun h' he hit hsz hk => wpAny_pyIter_enum he ?_
      have I2 : Inv X pins σ H1 { s1 with heap := h' } := I1.kept (t' := s1.toks) hk
      exact ⟨s1.heap.objs.size + 1, [s1.heap.objs.size + 1, s1.heap.objs.size], _, _, H1, rfl, I2, turn_enum a (s1.heap.objs.size + 1) s1.heap.objs.size, ⟨⟨.none, he⟩, hit, Nat.succ_ne_self _⟩, fr, q⟩
  · subst ex
    cases r1 with
    | cons r rr =>
      cases rr
      cases r
      obtain ⟨its, rv, p', hz⟩ := I1.tuple hq
      refine call_enum_begins (begins_tuple a its.toArray) p' fun h' he hit hsz hk => wpAny_pyIter_enum he ?_
      have I2 : Inv X pins σ H1 { s1 with heap := h' } := I1.kept (t' := s1.toks) hk
      exact ⟨s1.heap.objs.size + 1, [s1.heap.objs.size + 1, s1.heap.objs.size], _, _, H1, rfl, I2, turn_enumT a (s1.heap.objs.size + 1) s1.heap.objs.size, ⟨⟨.none, he⟩, ⟨_, hit, rfl, rfl⟩, Nat.succ_ne_self _⟩, fr, q⟩
def isStr : Option P → Bool
  | some (.str _) => true
  | _ => false
def sItE (fr : FA) : FI := fun δ m => (fr δ m).bind fun ds m => match ds with
  | [d] => (match itOf d m with
    | some it => if isStr (view d m) = true then .bad else .ok ⟨numd it.items, it.ok⟩ m
    | none => .bad)
  | _ => .bad
def sItZ (fr : FA) : FI := fun δ m => (fr δ m).bind fun ds m => match ds with
  | [d, e] => (match itOf d m, itOf e m, view d m, view e m with
    | some it, some it2, some (.lst _), some (.lst _) => .ok ⟨paird it.items it2.items, fun m => it.ok m && it2.ok m⟩ m
    | some it, some it2, some (.tup _), some (.tup _) => .ok ⟨paird it.items it2.items, fun m => it.ok m && it2.ok m⟩ m
    | _, _, _, _ => .bad)
  | _ => .bad
theorem RepDL.one {G : Gx} {H : Hp} {ι : Io} {d : D} {vs : List V} (h : RepDL G H ι [d] vs) : ∃ v, vs = [v] ∧ RepD G H ι d v := by
  obtain ⟨v, t, e, r, rt⟩ := h
  cases (show t = [] from rt)
  exact ⟨v, e, r⟩
theorem RepDL.two {G : Gx} {H : Hp} {ι : Io} {d e : D} {vs : List V} (h : RepDL G H ι [d, e] vs) : ∃ v u, vs = [v, u] ∧ RepD G H ι d v ∧ RepD G H ι e u := by
  obtain ⟨v, t, e, r, u, t', e', r', rt⟩ := h
  cases (show t' = [] from rt)
  exact ⟨v, u, by rw [e, e'], r, r'⟩
theorem ref_list {G : Gx} {ι : Io} {H : Hp} {m : Mem} {i : Nat} {a : Addr} {xs : List P} (M : MRel G H ι m) (q : ι.at_[i]? = some (some a) ∨ ι.at_[i]? = some none) (e : seen m[i]? = some (.lst xs)) : ∃ vs, SqL G.K H a vs ∧ RepL G H ι xs vs := by
  cases hm : m[i]? with
  | none => rw [hm] at e; cases e
  | some o =>
    rw [hm] at e
    cases o with
    | none => cases e
    | some o =>
      cases o with
      | lst ys =>
        have e' : some (P.lst ys) = some (P.lst xs) := e
        cases e'
        obtain ⟨_, vs, hH, rl⟩ := M.live hm q
        exact ⟨vs, .inl (.inl hH), rl⟩
      | dK ks ys =>
        have e' : some (P.dK ks ys) = some (P.lst xs) := e
        cases e'
      | dT ks ys =>
        have e' : some (P.dT ks ys) = some (P.lst xs) := e
        cases e'
      | ins C ns ds => cases e
theorem it_list {G : Gx} {H0 : Hp} {ι0 : Io} {m0 : Mem} {d : D} {v : V} {it : Itm} {xs : List P} (M0 : MRel G H0 ι0 m0) (r : RepD G H0 ι0 d v) (h : itOf d m0 = some it) (hv : view d m0 = some (.lst xs)) :
    ∃ a, v = .ref a ∧ (∃ vs, SqL G.K H0 a vs ∧ RepL G H0 ι0 it.items vs) ∧ ∀ ι H m, Mv ι0 H0 ι H → MRel G H ι m → it.ok m = true → ∃ vs, SqL G.K H a vs ∧ RepL G H ι it.items vs := by
  cases d with
  | p x =>
    cases hv
    cases h
    simp only [RepD, Rep] at r
    obtain ⟨a, vs, e, t, rl⟩ := r
    exact ⟨a, e, ⟨vs, t.sq, rl⟩, fun ι H m s M _ => ⟨vs, (t.mv s).sq, RepL.mv s _ _ rl⟩⟩
  | und => cases h
  | ref i =>
    obtain ⟨a, ev, hi⟩ := id r
    rw [view_ref] at hv
    unfold itOf at h
    dsimp only at h
    rw [hv] at h
    cases h
    refine ⟨a, ev, ref_list M0 hi hv, fun ι H m s M ok => ref_list M ?_ (by simpa using ok)⟩
    obtain ⟨b, eb, q⟩ := RepD.mv (G := G) (d := .ref i) s ⟨a, ev, hi⟩
    rw [ev] at eb
    cases eb
    exact q
theorem it_tup {G : Gx} {H0 : Hp} {ι0 : Io} {m0 : Mem} {d : D} {v : V} {it : Itm} {xs : List P} (M0 : MRel G H0 ι0 m0) (r : RepD G H0 ι0 d v) (h : itOf d m0 = some it) (hv : view d m0 = some (.tup xs)) :
    ∃ a, v = .ref a ∧ (∃ vs, SqT G.K H0 a vs ∧ RepL G H0 ι0 it.items vs) ∧ ∀ ι H m, Mv ι0 H0 ι H → MRel G H ι m → it.ok m = true → ∃ vs, SqT G.K H a vs ∧ RepL G H ι it.items vs := by
  cases d with
  | p x =>
    cases hv
    cases h
    simp only [RepD, Rep] at r
    obtain ⟨a, vs, e, t, rl⟩ := r
    exact ⟨a, e, ⟨vs, t.sq, rl⟩, fun ι H m s M _ => ⟨vs, (t.mv s).sq, RepL.mv s _ _ rl⟩⟩
  | und => cases h
  | ref i =>
    unfold itOf at h
    dsimp only at h
    rw [view_ref] at hv
    rw [hv] at h
    cases h
section
variable {X : Cx} {W : WX} {tg e e2 : Expr} {es : List Expr} {fa fb : FE} {fr : FA} {p pos tpos : Pos} {elts : List Expr} {kk : Nat}
theorem di_enum (hm : X.mg "enumerate" = none) (ha : DA X W [e] fr) (hg : Gl X "enumerate" := by rfl) (hs : starEach [e] X.env = [(false, eval e X.env)] := by rfl) : DI X W (.Tuple elts kk tpos) (.Call (.Name "enumerate" p) [e] [] pos) (sItE fr) :=
  (pi_enumA hg hm ha hs).conv fun σ H R ⟨δ, m, ι, S, M, h⟩ => ⟨δ, m, ι, S, M, h.seq fun ds m1 vs H1 ι1 q s1 M1 r1 h1 => by
    clear q
    split at h1
    · rename_i d
      obtain ⟨v, ev, r⟩ := r1.one
      subst ev
      cases q : itOf d m1 with
      | none => rw [q] at h1; exact h1.elim
      | some it =>
        rw [q] at h1
        dsimp only at h1
        split at h1
        · exact h1.elim
        · rename_i ns
          rcases it_src M1 r q with ⟨a, ev, ⟨vs, hq, _⟩, k⟩ | ⟨a, ev, ⟨vs, hq, _⟩, k⟩ | ⟨z, ev, k⟩
          · exact .inl ⟨a, vs, by rw [ev], hq, h1 _ H1 ι1 (.refl _ _) M1 (itr_enum k)⟩
          · exact .inr ⟨a, vs, by rw [ev], hq, h1 _ H1 ι1 (.refl _ _) M1 (itr_enumT k)⟩
          · exfalso
            cases d with
            | p x =>
              unfold itOf at q
              obtain ⟨xs, hx, e⟩ := Option.map_eq_some_iff.mp q
              cases x <;> first
                | (simp [walk] at hx; done)
                | (simp only [RepD, Rep] at r
                   obtain ⟨a, vs, e, t, rl⟩ := r
                   rw [ev] at e; cases e)
                | exact ns rfl
            | und => cases q
            | ref i =>
              obtain ⟨a, e, _⟩ := r
              rw [ev] at e; cases e
    · exact h1.elim⟩
theorem di_zip (hm : X.mg "zip" = none) (ha : DA X W [e, e2] fr) (hg : Gl X "zip" := by rfl)
    (hs : starEach [e, e2] X.env = (false, eval e X.env) :: starEach [e2] X.env := by rfl) (hpl : (backTo pos (starEach [e2] X.env)).any (·.1) = false := by rfl) :
    DI X W (.Tuple elts kk tpos) (.Call (.Name "zip" p) [e, e2] [] pos) (sItZ fr) :=
  (RZ.pi_zipA hg hm ha hs hpl).conv fun σ H R ⟨δ, m, ι, S, M, h⟩ => ⟨δ, m, ι, S, M, h.seq fun ds m1 vs H1 ι1 q s1 M1 r1 h1 => by
    clear q
    split at h1
    · rename_i d1 d2
      obtain ⟨v, u, ev, r, r'⟩ := r1.two
      subst ev
      split at h1
      · rename_i it it2 _ _ q1 q2 q3 q4
        obtain ⟨a, ev, ⟨vs, hq, _⟩, k⟩ := it_list M1 r q1 q3
        obtain ⟨b, eu, ⟨us, hq', _⟩, k'⟩ := it_list M1 r' q2 q4
        exact ⟨a, b, vs, us, by rw [ev, eu], .inl ⟨hq, hq', h1 _ H1 ι1 (.refl _ _) M1 (itr_zip k k')⟩⟩
      · rename_i it it2 _ _ q1 q2 q3 q4
        obtain ⟨a, ev, ⟨vs, hq, _⟩, k⟩ := it_tup M1 r q1 q3
        obtain ⟨b, eu, ⟨us, hq', _⟩, k'⟩ := it_tup M1 r' q2 q4
        exact ⟨a, b, vs, us, by rw [ev, eu], .inr ⟨hq, hq', h1 _ H1 ι1 (.refl _ _) M1 (itr_zipT k k')⟩⟩
      · exact h1.elim
    · exact h1.elim⟩
end

/-! ### for -/
def forL (g : FG) (fb : FS) (ok : Mem → Bool) : List P → FS
  | [], δ, m => if ok m = true then .nx δ m else .bad
  | x :: xs, δ, m => if ok m = true then (match g (.p x) δ with
    | some δ1 => (match fb δ1 m with
      | .nx δ2 m2 => forL g fb ok xs δ2 m2
      | .ct δ2 m2 => forL g fb ok xs δ2 m2
      | .bk δ2 m2 => .nx δ2 m2
      | .rt d m2 => .rt d m2
      | .ex x δ2 m2 => .ex x δ2 m2
      | .bad => .bad)
    | none => .bad) else .bad
/-- an expression's result, then a statement -/
def thenS {α : Type} (r : ER α) (δ : DS) (k : α → Mem → SR) : SR := match r with
  | .ok a m => k a m
  | .ex x m => .ex x δ m
  | .bad => .bad
@[simp] theorem thenS_ok {α : Type} (a : α) (m : Mem) (δ : DS) (k : α → Mem → SR) : thenS (.ok a m) δ k = k a m := rfl
@[simp] theorem thenS_ex {α : Type} (x : P) (m : Mem) (δ : DS) (k : α → Mem → SR) : thenS (.ex x m) δ k = .ex x δ m := rfl
@[simp] theorem thenS_bad {α : Type} (δ : DS) (k : α → Mem → SR) : thenS .bad δ k = .bad := rfl
def sFor (fi : FI) (g : FG) (fb : FS) : FS := fun δ m => thenS (fi δ m) δ fun it m => forL g fb it.ok it.items δ m
section
variable {X : Cx} {W : WX} {tg iter e c : Expr} {body : List Stmt} {fi : FI} {g : FG} {is : List Nat} {fb : FS} {fe : FE} {gc : FB} {pos : Pos} {δ : DS} {σ : L2.St} {H : Hp} {ι : Io} {E : Ends}
theorem SRP.imp {r : SR} {E E' : Ends} (h : SRP (gx X) W ι H r E) (k1 : ∀ σ H, E.nx σ H → E'.nx σ H) (k2 : ∀ v H, E.rt v H → E'.rt v H) (k3 : ∀ σ H, E.bk σ H → E'.bk σ H) (k4 : ∀ σ H, E.ct σ H → E'.ct σ H) : SRP (gx X) W ι H r E' := by
  cases r with
  | nx δ m => exact fun σ' H' ι' s M S => k1 _ _ (h σ' H' ι' s M S)
  | rt d m => exact fun σ' H' ι' s M S => k2 _ _ (h σ' H' ι' s M S)
  | bk δ m => exact fun σ' H' ι' s M S => k3 _ _ (h σ' H' ι' s M S)
  | ct δ m => exact fun σ' H' ι' s M S => k4 _ _ (h σ' H' ι' s M S)
  | ex x δ m => exact h
  | bad => exact h
theorem SRP.then {α β : Type} {rel : Hp → Io → α → β → Prop} {r : ER α} {k : α → Mem → SR} {Q : β → Hp → Prop} (S : SRel (gx X) H ι σ δ) (h : SRP (gx X) W ι H (thenS r δ k) E)
    (t : ∀ a m1 v H1 ι1, r = .ok a m1 → Step ι H ι1 H1 → MRel (gx X) H1 ι1 m1 → rel H1 ι1 a v → SRel (gx X) H1 ι1 σ δ → SRP (gx X) W ι1 H1 (k a m1) E → Q v H1) : ERP (gx X) W σ ι H rel r Q := by
  cases r with
  | ok a m => exact fun v H' ι' s M rr => t a m v H' ι' rfl s M rr (S.step s) (SRP.step s h)
  | ex x m => exact fun c dd H' ι' s M xr => h c dd σ H' ι' s M (S.step s) xr
  | bad => exact h
theorem dt_for (hp : PassesOwn (model X.prog X.w) X.A X.env X.xe) (hc : X.calm = true) (hi : DI X W tg iter fi) (hg : DG X tg g is) (hb : DTs X W body fb)
    (hs : ∀ x, foldedSetIterable iter X.env x = pure x := by intro _; rfl) : DT X W (.For tg iter body [] pos) (sFor fi g fb) :=
  (ps_for hp hc hi hg hb hs).conv fun E σ H ⟨δ, m, ι, S, M, h⟩ => by
    refine ⟨δ, m, ι, S, M, ?_⟩
    have h' : SRP (gx X) W ι H (thenS (fi δ m) δ fun it m => forL g fb it.ok it.items δ m) E := h
    refine h'.then S fun it m1 J H1 ι1 _ s1 M1 R1 S1 h1 => ?_
    refine ⟨fun i k σ H => k = it.items.length - i ∧ i ≤ it.items.length ∧ ∃ δ m ι, Mv ι1 H1 ι H ∧ SRel (gx X) H ι σ δ ∧ MRel (gx X) H ι m ∧ SRP (gx X) W ι H (forL g fb it.ok (it.items.drop i) δ m) E,
      ⟨_, rfl, Nat.zero_le _, δ, m1, ι1, .refl _ _, S1, M1, h1⟩, ?_⟩
    rintro i k σ2 H2 ⟨rfl, hi, δ2, m2, ι2, mv, S2, M2, h2⟩
    by_cases hlt : i < it.items.length
    · right
      have ed : it.items.drop i = it.items[i] :: it.items.drop (i + 1) := List.drop_eq_getElem_cons hlt
      rw [ed] at h2
      unfold forL at h2
      split at h2
      · rename_i ok
        obtain ⟨go, _⟩ := R1 ι2 H2 m2 mv M2 ok
        obtain ⟨go, yl⟩ := go i it.items[i] (List.getElem?_eq_getElem hlt)
        refine ⟨go, fun σ' H' => ∃ δ m ι, Mv ι1 H1 ι H' ∧ SRel (gx X) H' ι σ' δ ∧ MRel (gx X) H' ι m ∧ SRP (gx X) W ι H' (forL g fb it.ok (it.items.drop (i + 1)) δ m) E, fun σ' H' hn => ⟨it.items.length - (i + 1), by omega, rfl, hlt, hn⟩, fun v H' y => ?_⟩
        obtain ⟨sm, rv⟩ := yl v H' y
        split at h2
        · rename_i δ3 hg3
          refine ⟨δ2, ι2, .p it.items[i], δ3, S2.step (.same sm), rv, hg3, fun σ4 S4 _ => ?_⟩
          have M4 := M2.same sm
          refine ⟨δ3, m2, ι2, S4, M4, ?_⟩
          have mv4 : Mv ι1 H1 ι2 H' := mv.trans (Step.same sm).mv
          have s4 : Step ι2 H2 ι2 H' := .same sm
          cases hb5 : fb δ3 m2 with
          | nx δ5 m5 => rw [hb5] at h2; exact fun σ' H6 ι' st Mr Sr => ⟨δ5, m5, ι', mv4.trans st.mv, Sr, Mr, SRP.step (s4.trans st) h2⟩
          | ct δ5 m5 => rw [hb5] at h2; exact fun σ' H6 ι' st Mr Sr => ⟨δ5, m5, ι', mv4.trans st.mv, Sr, Mr, SRP.step (s4.trans st) h2⟩
          | bk δ5 m5 => rw [hb5] at h2; exact fun σ' H6 ι' st Mr Sr => h2 σ' H6 ι' (s4.trans st) Mr Sr
          | rt d m5 => rw [hb5] at h2; exact fun σ' H6 ι' st Mr Sr => h2 σ' H6 ι' (s4.trans st) Mr Sr
          | ex x δ5 m5 => rw [hb5] at h2; exact fun c dd σ' H6 ι' st Mr Sr => h2 c dd σ' H6 ι' (s4.trans st) Mr Sr
          | bad => rw [hb5] at h2; exact h2
        · exact h2.elim
      · exact h2.elim
    · left
      have ei : i = it.items.length := by omega
      subst ei
      rw [List.drop_length] at h2
      unfold forL at h2
      split at h2
      · rename_i ok
        exact ⟨(R1 ι2 H2 m2 mv M2 ok).2, h2 σ2 H2 ι2 (.refl _ _) M2 S2⟩
      · exact h2.elim

/-! ### while -/
def whileF (gc : FB) (fb : FS) : Nat → FS
  | 0, _, _ => .bad
  | n + 1, δ, m => match gc δ m with
    | .ok false m1 => .nx δ m1
    | .ok true m1 => (match fb δ m1 with
      | .nx δ2 m2 => whileF gc fb n δ2 m2
      | .ct δ2 m2 => whileF gc fb n δ2 m2
      | .bk δ2 m2 => .nx δ2 m2
      | .rt d m2 => .rt d m2
      | .ex x δ2 m2 => .ex x δ2 m2
      | .bad => .bad)
    | .ex x m1 => .ex x δ m1
    | .bad => .bad
open Classical in
/-- as often as it takes -/
noncomputable def sWhile (gc : FB) (fb : FS) : FS := fun δ m => if h : ∃ n, whileF gc fb n δ m ≠ .bad then whileF gc fb (choose h) δ m else .bad
theorem whileF_up {gc : FB} {fb : FS} : ∀ (n : Nat) (δ : DS) (m : Mem), whileF gc fb n δ m ≠ .bad → whileF gc fb (n + 1) δ m = whileF gc fb n δ m
  | 0, δ, m, h => absurd rfl h
  | n + 1, δ, m, h => by
    rw [whileF]
    rw [whileF] at h
    conv => rhs; rw [whileF]
    cases hgc : gc δ m with
    | ex x m1 => rfl
    | bad => rfl
    | ok c m1 =>
      rw [hgc] at h
      cases c with
      | false => rfl
      | true =>
        dsimp only at h ⊢
        cases hb : fb δ m1 with
        | nx δ2 m2 => rw [hb] at h; exact whileF_up n δ2 m2 h
        | ct δ2 m2 => rw [hb] at h; exact whileF_up n δ2 m2 h
        | _ => rfl
theorem whileF_le {gc : FB} {fb : FS} {n k : Nat} {δ : DS} {m : Mem} (h : whileF gc fb n δ m ≠ .bad) (hk : n ≤ k) : whileF gc fb k δ m = whileF gc fb n δ m := by
  induction hk with
  | refl => rfl
  | @step j hj ih => rw [whileF_up j δ m (by rw [ih]; exact h), ih]
open Classical in
theorem sWhile_eq {gc : FB} {fb : FS} {n : Nat} {δ : DS} {m : Mem} (h : whileF gc fb n δ m ≠ .bad) : sWhile gc fb δ m = whileF gc fb n δ m := by
  have ex : ∃ n, whileF gc fb n δ m ≠ .bad := ⟨n, h⟩
  unfold sWhile
  rw [dif_pos ex]
  have hc := choose_spec ex
  rcases Nat.le_total n (choose ex) with l | l
  · exact whileF_le h l
  · exact (whileF_le hc l).symm
open Classical in
theorem sWhile_fuel {gc : FB} {fb : FS} {δ : DS} {m : Mem} : ∃ n, sWhile gc fb δ m = whileF gc fb n δ m := by
  unfold sWhile
  split
  · exact ⟨_, rfl⟩
  · exact ⟨0, rfl⟩
theorem dt_while (hp : PassesOwn (model X.prog X.w) X.A X.env X.xe) (hc : DB X W c gc) (hb : DTs X W body fb) : DT X W (.While c body [] pos) (sWhile gc fb) :=
  (ps_while hp hc hb).conv fun E σ H ⟨δ, m, ι, S, M, h⟩ => by
    obtain ⟨n, en⟩ := sWhile_fuel (gc := gc) (fb := fb) (δ := δ) (m := m)
    rw [en] at h
    refine ⟨fun n σ H => ∃ δ m ι, SRel (gx X) H ι σ δ ∧ MRel (gx X) H ι m ∧ SRP (gx X) W ι H (whileF gc fb n δ m) E, ⟨n, δ, m, ι, S, M, h⟩, ?_⟩
    rintro n σ2 H2 ⟨δ2, m2, ι2, S2, M2, h2⟩
    cases n with
    | zero => exact h2.elim
    | succ n =>
      rw [whileF] at h2
      refine ⟨δ2, m2, ι2, S2, M2, ?_⟩
      cases hg : gc δ2 m2 with
      | bad => rw [hg] at h2; exact h2
      | ex x m3 => rw [hg] at h2; exact fun cc dd H3 ι3 s M3 xr => h2 cc dd σ2 H3 ι3 s M3 (S2.step s) xr
      | ok k m3 =>
        rw [hg] at h2
        intro b H3 ι3 s M3 eb
        subst eb
        cases k with
        | false => rw [if_neg (by decide)]; exact h2 σ2 H3 ι3 s M3 (S2.step s)
        | true =>
          rw [if_pos rfl]
          dsimp only at h2
          refine ⟨fun σ' H' => ∃ δ m ι, SRel (gx X) H' ι σ' δ ∧ MRel (gx X) H' ι m ∧ SRP (gx X) W ι H' (whileF gc fb n δ m) E, fun σ' H' q => ⟨n, Nat.lt_succ_self _, q⟩, δ2, m3, ι3, S2.step s, M3, ?_⟩
          cases hb5 : fb δ2 m3 with
          | nx δ5 m5 => rw [hb5] at h2; exact fun σ' H6 ι' st Mr Sr => ⟨δ5, m5, ι', Sr, Mr, SRP.step (s.trans st) h2⟩
          | ct δ5 m5 => rw [hb5] at h2; exact fun σ' H6 ι' st Mr Sr => ⟨δ5, m5, ι', Sr, Mr, SRP.step (s.trans st) h2⟩
          | bk δ5 m5 => rw [hb5] at h2; exact fun σ' H6 ι' st Mr Sr => h2 σ' H6 ι' (s.trans st) Mr Sr
          | rt d m5 => rw [hb5] at h2; exact fun σ' H6 ι' st Mr Sr => h2 σ' H6 ι' (s.trans st) Mr Sr
          | ex x δ5 m5 => rw [hb5] at h2; exact fun c dd σ' H6 ι' st Mr Sr => h2 c dd σ' H6 ι' (s.trans st) Mr Sr
          | bad => rw [hb5] at h2; exact h2
end
end DL

set_option Elab.async false
set_option linter.all false
set_option maxRecDepth 100000
/-! The data layer, part i: comprehensions. -/
namespace DL
open PySem PySem.Spec PyProof.Rows L2

/-- no exception within a block -/
def WN : WX := fun _ _ _ _ => False
def ER.bindN {α β : Type} (r : ER α) (f : α → Mem → ER β) : ER β := match r with
  | .ok a m => f a m
  | _ => .bad
@[simp] theorem ER.bindN_ok {α β : Type} (a : α) (m : Mem) (f : α → Mem → ER β) : (ER.ok a m).bindN f = f a m := rfl
@[simp] theorem ER.bindN_ex {α β : Type} (x : P) (m : Mem) (f : α → Mem → ER β) : (ER.ex x m : ER α).bindN f = .bad := rfl
@[simp] theorem ER.bindN_bad {α β : Type} (f : α → Mem → ER β) : (ER.bad : ER α).bindN f = .bad := rfl
def wipeD (δ : DS) : List Nat → DS
  | [] => δ
  | v :: vs => (wipeD δ vs).set v .und
theorem SRel.wipe {G : Gx} {H : Hp} {ι : Io} {σ : L2.St} {δ : DS} (S : SRel G H ι σ δ) : ∀ vs : List Nat, SRel G H ι (wipe σ vs) (wipeD δ vs)
  | [] => S
  | v :: vs => by
    have ih := S.wipe vs
    refine ⟨by unfold L2.wipe wipeD; rw [List.length_set, List.length_set]; exact ih.len, fun i d h n => ?_⟩
    unfold wipeD at h
    unfold L2.wipe
    by_cases z : v = i
    · subst z
      have l : v < (wipeD δ vs).length := by have := (List.getElem?_eq_some_iff.mp h).1; simpa using this
      rw [List.getElem?_set_self l] at h
      cases h
      exact absurd rfl n
    · rw [List.getElem?_set_ne z] at h
      rw [List.getElem?_set_ne z]
      exact ih.at_ i d h n
theorem wipe_in {σ : L2.St} {i : Nat} : ∀ {vs : List Nat}, i ∈ vs → i < σ.length → (wipe σ vs)[i]? = some none
  | v :: vs, h, l => by
    unfold wipe
    by_cases z : v = i
    · subst z
      rw [List.getElem?_set_self (by rw [wipe_length]; exact l)]
    · rw [List.getElem?_set_ne z]
      exact wipe_in ((List.mem_cons.mp h).resolve_left fun e => z e.symm) l
theorem wipe_sto {σ σ' : L2.St} {is vs : List Nat} (h : Sto is σ σ') (hs : ∀ i ∈ is, i ∈ vs) : wipe σ' vs = wipe σ vs := by
  refine List.ext_getElem? fun i => ?_
  by_cases m : i ∈ vs
  · by_cases l : i < σ.length
    · rw [wipe_in m l, wipe_in m (by rw [h.len]; exact l)]
    · rw [List.getElem?_eq_none (by rw [wipe_length, h.len]; omega), List.getElem?_eq_none (by rw [wipe_length]; omega)]
  · rw [wipe_out m, wipe_out m, h.out i fun z => m (hs i z)]
theorem wipe_twice {σ : L2.St} {vs : List Nat} : wipe (wipe σ vs) vs = wipe σ vs := by
  refine List.ext_getElem? fun i => ?_
  by_cases m : i ∈ vs
  · by_cases l : i < σ.length
    · rw [wipe_in m l, wipe_in m (by rw [wipe_length]; exact l)]
    · rw [List.getElem?_eq_none (by rw [wipe_length, wipe_length]; omega), List.getElem?_eq_none (by rw [wipe_length]; omega)]
  · rw [wipe_out m]

/-- the state while a list grows at D -/
structure KC (G : Gx) (D : Addr) (ι1 : Io) (H1 : Hp) (ι : Io) (H : Hp) (m : Mem) (acc : List P) : Prop where
  hd : ι.hid = D :: ι1.hid
  st : Step ι1 H1 ⟨ι.at_, ι1.hid⟩ H
  mr : MRel G H ι m
  dd : ∃ vs, H D = some (.lst vs) ∧ RepL G H ι acc vs
section
variable {G : Gx} {D : Addr} {ι1 ι ι' : Io} {H1 H H' : Hp} {m m' : Mem} {acc : List P}
theorem Step.unhid {a b l : List Addr} {A B : List (Option Addr)} (s : Step ⟨A, a⟩ H ⟨B, b⟩ H') : Step ⟨A, l⟩ H ⟨B, l⟩ H' := ⟨s.len, s.pre, s.keep, s.new, s.tbl, rfl⟩
theorem KC.start (M : MRel G H1 ι1 m) (hD : H1 D = none) : KC G D ι1 H1 (ι1.hide D) (upd H1 D (.lst [])) m [] where
  hd := rfl
  st := .same (Same.upd hD)
  mr := by
    have s : Mv ι1 H1 (ι1.hide D) (upd H1 D (.lst [])) := .hide hD
    refine ⟨M.len, M.inj, fun i a e => ?_, M.gon, fun a e => ?_⟩
    · obtain ⟨o, q, ob⟩ := M.obj i a e
      obtain ⟨u, hu⟩ := ob.some_
      exact ⟨o, q, ob.toM s (upd_ne (ne_of_none hu hD))⟩
    · rcases List.mem_cons.mp e with e | e
      · subst e
        exact ⟨⟨_, upd_same⟩, (M.fresh hD).1⟩
      · obtain ⟨⟨u, hu⟩, n⟩ := M.hid a e
        exact ⟨⟨u, by rw [upd_ne (ne_of_none hu hD)]; exact hu⟩, n⟩
  dd := ⟨[], upd_same, .nil⟩
theorem KC.inh (k : KC G D ι1 H1 ι H m acc) : D ∈ ι.hid := by rw [k.hd]; exact List.mem_cons_self
theorem KC.step (k : KC G D ι1 H1 ι H m acc) (s : Step ι H ι' H') (M : MRel G H' ι' m') : KC G D ι1 H1 ι' H' m' acc where
  hd := s.hid.trans k.hd
  st := k.st.trans (Step.unhid (a := ι.hid) (b := ι'.hid) s)
  mr := M
  dd := by
    obtain ⟨vs, e, r⟩ := k.dd
    exact ⟨vs, s.keep D _ e (k.mr.hid D k.inh).2 (fun ps z => by cases z), r.step s⟩
theorem KC.push (k : KC G D ι1 H1 ι H m acc) {vs : List V} {y : P} {v : V} (hD : H1 D = none) (e : H D = some (.lst vs)) (r : RepL G H ι acc vs) (ry : Rep G H ι y v) : KC G D ι1 H1 ι (upd H D (.lst (vs ++ [v]))) m (acc ++ [y]) := by
  have mv : Mv ι H ι (upd H D (.lst (vs ++ [v]))) := .hidden k.inh
  have dn : some D ∉ ι.at_ := (k.mr.hid D k.inh).2
  refine ⟨k.hd, ?_, ?_, ⟨_, upd_same, (RepL.mv mv _ _ r).append (.one (Rep.mv mv _ _ ry))⟩⟩
  · refine ⟨k.st.len, k.st.pre, fun b o h n nt => ?_, k.st.new, fun b ps h => ?_, k.st.hid⟩
    · rw [upd_ne (ne_of_none h hD)]; exact k.st.keep b o h n nt
    · rw [upd_ne (ne_of_none h hD)]; exact k.st.tbl b ps h
  · refine ⟨k.mr.len, k.mr.inj, fun i a h => ?_, k.mr.gon, fun a h => ?_⟩
    · obtain ⟨o, q, ob⟩ := k.mr.obj i a h
      exact ⟨o, q, ob.toM mv (upd_ne fun z => dn (by rw [← z]; exact List.mem_of_getElem? h))⟩
    · obtain ⟨⟨u, hu⟩, n⟩ := k.mr.hid a h
      by_cases z : a = D
      · subst z; exact ⟨⟨_, upd_same⟩, n⟩
      · exact ⟨⟨u, by rw [upd_ne z]; exact hu⟩, n⟩
theorem KC.mv (k : KC G D ι1 H1 ι H m acc) (hD : H1 D = none) : Mv ι1 H1 ι H := by
  refine ⟨⟨fun a u h nt => ?_⟩, k.st.len, k.st.pre⟩
  obtain ⟨h1, h2⟩ := k.st.keepN h.1 h.2 nt
  refine ⟨h1, h2.1, fun z => ?_⟩
  rw [k.hd] at z
  rcases List.mem_cons.mp z with z | z
  · exact ne_of_none h.1 hD z
  · exact h2.2 z
/-- the list is done -/
theorem KC.fin (k : KC G D ι1 H1 ι H m acc) (M1 : ∃ m1, MRel G H1 ι1 m1) (hD : H1 D = none) : MRel G H ⟨ι.at_, ι1.hid⟩ m ∧ Rep G H ⟨ι.at_, ι1.hid⟩ (.lst acc) (.ref D) := by
  have mv : Mv ι H ⟨ι.at_, ι1.hid⟩ H := by
    obtain ⟨A, hh⟩ := ι
    have e : hh = D :: ι1.hid := k.hd
    subst e
    exact Mv.show_ (ι := ⟨A, []⟩)
  obtain ⟨m1, M1⟩ := M1
  refine ⟨⟨k.mr.len, k.mr.inj, fun i a h => ?_, k.mr.gon, fun a h => ?_⟩, ?_⟩
  · obtain ⟨o, q, ob⟩ := k.mr.obj i a h
    exact ⟨o, q, ob.toM mv rfl⟩
  · exact k.mr.hid a (by rw [k.hd]; exact List.mem_cons_of_mem _ h)
  · obtain ⟨vs, hd, r⟩ := k.dd
    simp only [Rep]
    refine ⟨D, vs, rfl, .inl ⟨hd, (k.mr.hid D k.inh).2, fun z => ?_⟩, RepL.mv mv _ _ r⟩
    obtain ⟨⟨u, hu⟩, _⟩ := M1.hid D z
    rw [hD] at hu; cases hu
end

/-! ### the tests -/
abbrev DBs (X : Cx) (W : WX) (es : List Expr) (f : FB) : Prop := PTs X es (tDB X W f)
def sYes : FB := fun _ m => .ok true m
theorem _root_.L2.PTs.conv {X : Cx} {es : List Expr} {t t' : TT} (h : PTs X es t) (k : ∀ σ H Q, t' σ H Q → t σ H Q) : PTs X es t' := ⟨fun pins s σ H Q I q => h.run pins s σ H Q I (k σ H Q q)⟩
theorem dbs_nil {X : Cx} {W : WX} : DBs X W [] sYes := pts_nil.conv fun σ H Q ⟨δ, m, ι, S, M, h⟩ => h true H ι (.refl _ _) M rfl
theorem dbs_one {X : Cx} {W : WX} {c : Expr} {g : FB} (h : DB X W c g) : DBs X W [c] g := pts_one h

/-! ### one clause -/
/-- the items told by the turns; δ: the names at a turn's start -/
def compL (g : FG) (ft : FB) (fe : DS → Mem → ER (List P)) (ok : Mem → Bool) (δ : DS) : List P → Mem → ER (List P)
  | [], m => if ok m = true then .ok [] m else .bad
  | x :: xs, m => if ok m = true then (match g (.p x) δ with
    | some δ1 => (ft δ1 m).bindN fun b m => if b = true then (fe δ1 m).bindN fun ys m => (compL g ft fe ok δ xs m).bindN fun zs m => .ok (ys ++ zs) m else compL g ft fe ok δ xs m
    | none => .bad) else .bad
/-- one element -/
def elt (fe : FE) : DS → Mem → ER (List P) := fun δ m => (fe δ m).bindN fun d m => match d with
  | .p y => .ok [y] m
  | _ => .bad
def mkL (xs : List P) (m : Mem) : ER D := if xs.length ≤ 16777216 then .ok (.p (.lst xs)) m else .bad
def sLc (fi : FI) (g : FG) (ft : FB) (fe : FE) (vs : List Nat) : FE := fun δ m => (fi δ m).bind fun it m => (compL g ft (elt fe) it.ok (wipeD δ vs) it.items m).bindN mkL
theorem ERP.okOf {G : Gx} {W : WX} {σ : L2.St} {ι : Io} {H : Hp} {α γ ε : Type} {rel' : Hp → Io → γ → ε → Prop} {r : ER α} {g : α → Mem → ER γ} {Q : ε → Hp → Prop} (h : ERP G W σ ι H rel' (r.bindN g) Q) :
    ∃ a m, r = .ok a m ∧ ERP G W σ ι H rel' (g a m) Q := by
  cases r with
  | ok a m => exact ⟨a, m, rfl, h⟩
  | ex x m => exact h.elim
  | bad => exact h.elim
theorem bindN_ok {α β : Type} {r : ER α} {g : α → Mem → ER β} {b : β} {m : Mem} (h : r.bindN g = .ok b m) : ∃ a m1, r = .ok a m1 ∧ g a m1 = .ok b m := by
  cases r with
  | ok a m1 => exact ⟨a, m1, rfl, h⟩
  | ex x m1 => cases h
  | bad => cases h
section
variable {X : Cx} {W : WX} {tg iter ee : Expr} {ifs : List Expr} {fi : FI} {g : FG} {is : List Nat} {ft : FB} {fe : FE} {pos : Pos} {scope : Scope} {own : List (Str × Nat)}
/-- what is left of a block, as one wants it -/
def Rest (r : ER (List P)) (n : Nat) (ys : List P) (m : Mem) : Prop := r = .ok ys m ∧ n + ys.length ≤ 16777216
theorem lc_conv (hs : ∀ i ∈ is, i ∈ own.map (·.2)) (σ : L2.St) (H : Hp) (Q : VK) (h : tD X W (sLc fi g ft fe (own.map (·.2))) σ H Q) :
    tLc (tDI X W fi) (tDG X g is) (tDB X WN ft) (tD X WN fe) (own.map (·.2)) σ H Q := by
  obtain ⟨δ, m, ι, S, M, h⟩ := h
  refine ⟨δ, m, ι, S, M, h.seq fun it m1 J H1 ι1 _ s1 M1 R1 h1 D hD => ?_⟩
  have S1 := S.step s1
  obtain ⟨zs, mz, ez, h2⟩ := ERP.okOf h1
  unfold mkL at h2
  split at h2
  case isFalse => exact h2.elim
  rename_i hlen
  refine ⟨fun i k H => k = it.items.length - i ∧ i ≤ it.items.length ∧ ∃ m ι acc ys, KC (gx X) D ι1 H1 ι H m acc ∧ compL g ft (elt fe) it.ok (wipeD δ (own.map (·.2))) (it.items.drop i) m = .ok ys mz ∧ acc ++ ys = zs,
    ⟨_, rfl, Nat.zero_le _, m1, ι1.hide D, [], zs, .start M1 hD, ez, rfl⟩, ?_⟩
  rintro i k H2 ⟨rfl, hi, m2, ι2, acc, ys, kc, e2, ea⟩
  have S2 : SRel (gx X) H2 ι2 σ δ := S1.mv (kc.mv hD)
  by_cases hlt : i < it.items.length
  · right
    rw [List.drop_eq_getElem_cons hlt] at e2
    unfold compL at e2
    split at e2
    case isFalse => cases e2
    rename_i ok
    obtain ⟨go, _⟩ := R1 ι2 H2 m2 (kc.mv hD) kc.mr ok
    obtain ⟨go, yl⟩ := go i it.items[i] (List.getElem?_eq_getElem hlt)
    refine ⟨go, fun H' => ∃ m ι acc ys, KC (gx X) D ι1 H1 ι H' m acc ∧ compL g ft (elt fe) it.ok (wipeD δ (own.map (·.2))) (it.items.drop (i + 1)) m = .ok ys mz ∧ acc ++ ys = zs, fun H' hn => ⟨it.items.length - (i + 1), by omega, rfl, hlt, hn⟩, fun v H' y => ?_⟩
    obtain ⟨sm, rv⟩ := yl v H' y
    split at e2
    · rename_i δ3 hg3
      have kc3 := kc.step (.same sm) (kc.mr.same sm)
      refine ⟨wipeD δ (own.map (·.2)), ι2, .p it.items[i], δ3, (S2.step (.same sm)).wipe _, rv, hg3, fun σ4 S4 t4 => ⟨(wipe_sto t4 hs).trans wipe_twice, ?_⟩⟩
      obtain ⟨b, m3, eb, e3⟩ := bindN_ok e2
      refine ⟨δ3, m2, ι2, S4, kc3.mr, ?_⟩
      rw [eb]
      rintro b' H4 ι4 s4 M4 rfl
      have kc4 := kc3.step s4 M4
      cases b with
      | false =>
        rw [if_neg (by decide)] at e3 ⊢
        exact ⟨m3, ι4, acc, ys, kc4, e3, ea⟩
      | true =>
        rw [if_pos rfl] at e3 ⊢
        obtain ⟨us, m4, eu, e4⟩ := bindN_ok e3
        obtain ⟨ws, m5, ew, e5⟩ := bindN_ok e4
        cases e5
        unfold elt at eu
        obtain ⟨d, m6, ed, e6⟩ := bindN_ok eu
        refine ⟨δ3, m3, ι4, S4.step s4, M4, ?_⟩
        rw [ed]
        intro v' H5 ι5 s5 M5 r5
        have kc5 := kc4.step s5 M5
        cases d with
        | p y =>
          cases e6
          obtain ⟨vs, hd, r⟩ := kc5.dd
          refine ⟨vs, hd, ?_, _, ι5, acc ++ [y], ws, kc5.push hD hd r r5, ew, by rw [← ea]; simp⟩
          have : acc.length + (([y] ++ ws)).length ≤ 16777216 := by rw [← List.length_append, ea]; exact hlen
          rw [sizeLine_eq, ← r.length]
          simp at this
          omega
        | ref j => cases e6
        | und => cases e6
    · cases e2
  · left
    have ei : i = it.items.length := by omega
    subst ei
    rw [List.drop_length] at e2
    unfold compL at e2
    split at e2
    · rename_i ok
      cases e2
      rw [List.append_nil] at ea
      subst ea
      obtain ⟨MF, RF⟩ := kc.fin ⟨m1, M1⟩ hD
      exact ⟨(R1 ι2 H2 _ (kc.mv hD) kc.mr ok).2, h2 _ H2 ⟨ι2.at_, ι1.hid⟩ kc.st MF RF⟩
    · cases e2
theorem de_lc (hc : X.calm = true) (hN : X.N.Nodup) (hi : DI X W tg iter fi) (ok : BlkOk X.N X.env.scope scope own)
    (hg : ∀ (s : Shared) (H : Hp) (C : Addr) (cl : List (Str × Addr)) (fp : List Addr), DG (X.blk s H scope (compEnvC scope cl C X.env) fp) tg g is) (ht : ∀ (s : Shared) (H : Hp) (C : Addr) (cl : List (Str × Addr)) (fp : List Addr), DBs (X.blk s H scope (compEnvC scope cl C X.env) fp) WN ifs ft)
    (he : ∀ (s : Shared) (H : Hp) (C : Addr) (cl : List (Str × Addr)) (fp : List Addr), DE (X.blk s H scope (compEnvC scope cl C X.env) fp) WN ee fe) (hs : ∀ i ∈ is, i ∈ own.map (·.2) := by decide) (hf : ∀ x, foldedSetIterable iter X.env x = pure x := by intro _; rfl) :
    DE X W (.ListComp ee [⟨tg, iter, ifs, 0⟩] scope pos) (sLc fi g ft fe (own.map (·.2))) :=
  (pe_lc (wi := tDI X W fi) (g := tDG X g is) (tt := tDB X WN ft) (te := tD X WN fe) hc hN hi ok hg ht he hf).conv fun σ H Q h => lc_conv hs σ H Q h
def sAsgN (fa : FE) (i : Nat) : FS := fun δ m => thenS (fa δ m) δ fun d m => match gN i d δ with
  | some δ' => .nx δ' m
  | none => .bad
theorem asgN_conv {fa : FE} {i : Nat} {E : Ends} {σ : L2.St} {H : Hp} (h : tDS X W (sAsgN fa i) E σ H) : tD X W fa σ H fun x H1 => gName i x σ H1 E.nx := by
  obtain ⟨δ, m, ι, S, M, h⟩ := h
  refine ⟨δ, m, ι, S, M, ?_⟩
  refine SRP.then S h fun d m1 v H1 ι1 _ s1 M1 r1 S1 h1 => ?_
  cases q : gN i d δ with
  | none => rw [q] at h1; exact h1.elim
  | some δ' =>
    rw [q] at h1
    unfold gN at q
    have key : (if i < δ.length then some (δ.set i d) else none) = some δ' := by cases d <;> first | exact q | cases q
    split at key
    · cases key
      exact h1 _ H1 ι1 (.refl _ _) M1 (S1.set r1 i)
    · cases key
theorem dt_setLc {i : Nat} {y : Str} {py spos : Pos} (hc : X.calm = true) (hN : X.N.Nodup) (hsw : swapsWith (.ListComp ee [⟨tg, iter, ifs, 0⟩] scope pos) (some (.Name y py)) spos.line X.env = pure true) (hi : DI X W tg iter fi) (ok : BlkOk X.N X.env.scope scope own)
    (hg : ∀ (s : Shared) (H : Hp) (C : Addr) (cl : List (Str × Addr)) (fp : List Addr), DG (X.blk s H scope (compEnvC scope cl C X.env) fp) tg g is) (ht : ∀ (s : Shared) (H : Hp) (C : Addr) (cl : List (Str × Addr)) (fp : List Addr), DBs (X.blk s H scope (compEnvC scope cl C X.env) fp) WN ifs ft)
    (he : ∀ (s : Shared) (H : Hp) (C : Addr) (cl : List (Str × Addr)) (fp : List Addr), DE (X.blk s H scope (compEnvC scope cl C X.env) fp) WN ee fe) (hs : ∀ i ∈ is, i ∈ own.map (·.2) := by decide) (hy : X.N[i]? = some y := by rfl) (hyl : X.env.scope.names.lookup y = some .local := by rfl) (hf : ∀ x, foldedSetIterable iter X.env x = pure x := by intro _; rfl) :
    DT X W (.Assign [.Name y py] (.ListComp ee [⟨tg, iter, ifs, 0⟩] scope pos) spos) (sAsgN (sLc fi g ft fe (own.map (·.2))) i) :=
  (ps_setLc (wi := tDI X W fi) (g := tDG X g is) (tt := tDB X WN ft) (te := tD X WN fe) hc hN hy hyl hsw hi ok hg ht he hf).conv fun E σ H h => lc_conv hs σ H _ (asgN_conv h)
end

/-! ### two clauses -/
section
variable {X : Cx} {W : WX} {tg iter tg1 iter1 ee : Expr} {ifs ifs1 : List Expr} {fi fi1 : FI} {g g1 : FG} {is is1 : List Nat} {ft ft1 : FB} {fe : FE} {pos : Pos} {scope : Scope} {own : List (Str × Nat)} {vs1 : List Nat}
/-- a turn's own walk -/
def inner (fi1 : FI) (g1 : FG) (ft1 : FB) (fe : FE) (vs1 : List Nat) : DS → Mem → ER (List P) := fun δ m => (fi1 δ m).bindN fun it m => compL g1 ft1 (elt fe) it.ok (wipeD δ vs1) it.items m
def sLc2 (fi : FI) (g : FG) (ft : FB) (fi1 : FI) (g1 : FG) (ft1 : FB) (fe : FE) (vs vs1 : List Nat) : FE := fun δ m => (fi δ m).bind fun it m => (compL g ft (inner fi1 g1 ft1 fe vs1) it.ok (wipeD δ vs) it.items m).bindN mkL
theorem lc2_conv (hs : ∀ i ∈ is, i ∈ own.map (·.2)) (hs1 : ∀ i ∈ is1, i ∈ vs1) (σ : L2.St) (H : Hp) (Q : VK) (h : tD X W (sLc2 fi g ft fi1 g1 ft1 fe (own.map (·.2)) vs1) σ H Q) :
    tLc2 (tDI X W fi) (tDG X g is) (tDB X WN ft) (tDI X WN fi1) (tDG X g1 is1) (tDB X WN ft1) (tD X WN fe) (own.map (·.2)) vs1 σ H Q := by
  obtain ⟨δ, m, ι, S, M, h⟩ := h
  refine ⟨δ, m, ι, S, M, h.seq fun it m1 J H1 ι1 _ s1 M1 R1 h1 D hD => ?_⟩
  have S1 := S.step s1
  obtain ⟨zs, mz, ez, h2⟩ := ERP.okOf h1
  unfold mkL at h2
  split at h2
  case isFalse => exact h2.elim
  rename_i hlen
  refine ⟨fun i k H => k = it.items.length - i ∧ i ≤ it.items.length ∧ ∃ m ι acc ys, KC (gx X) D ι1 H1 ι H m acc ∧ compL g ft (inner fi1 g1 ft1 fe vs1) it.ok (wipeD δ (own.map (·.2))) (it.items.drop i) m = .ok ys mz ∧ acc ++ ys = zs,
    ⟨_, rfl, Nat.zero_le _, m1, ι1.hide D, [], zs, .start M1 hD, ez, rfl⟩, ?_⟩
  rintro i k H2 ⟨rfl, hi, m2, ι2, acc, ys, kc, e2, ea⟩
  have S2 : SRel (gx X) H2 ι2 σ δ := S1.mv (kc.mv hD)
  by_cases hlt : i < it.items.length
  · right
    rw [List.drop_eq_getElem_cons hlt] at e2
    unfold compL at e2
    split at e2
    case isFalse => cases e2
    rename_i ok
    obtain ⟨go, _⟩ := R1 ι2 H2 m2 (kc.mv hD) kc.mr ok
    obtain ⟨go, yl⟩ := go i it.items[i] (List.getElem?_eq_getElem hlt)
    refine ⟨go, fun H' => ∃ m ι acc ys, KC (gx X) D ι1 H1 ι H' m acc ∧ compL g ft (inner fi1 g1 ft1 fe vs1) it.ok (wipeD δ (own.map (·.2))) (it.items.drop (i + 1)) m = .ok ys mz ∧ acc ++ ys = zs, fun H' hn => ⟨it.items.length - (i + 1), by omega, rfl, hlt, hn⟩, fun v H' y => ?_⟩
    obtain ⟨sm, rv⟩ := yl v H' y
    split at e2
    · rename_i δ3 hg3
      have kc3 := kc.step (.same sm) (kc.mr.same sm)
      refine ⟨wipeD δ (own.map (·.2)), ι2, .p it.items[i], δ3, (S2.step (.same sm)).wipe _, rv, hg3, fun σ4 S4 t4 => ⟨(wipe_sto t4 hs).trans wipe_twice, ?_⟩⟩
      obtain ⟨b, m3, eb, e3⟩ := bindN_ok e2
      refine ⟨δ3, m2, ι2, S4, kc3.mr, ?_⟩
      rw [eb]
      rintro b' H4 ι4 s4 M4 rfl
      have kc4 := kc3.step s4 M4
      cases b with
      | false =>
        rw [if_neg (by decide)] at e3 ⊢
        exact ⟨m3, ι4, acc, ys, kc4, e3, ea⟩
      | true =>
        rw [if_pos rfl] at e3 ⊢
        obtain ⟨us, m4, eu, e4⟩ := bindN_ok e3
        obtain ⟨ws, m5, ew, e5⟩ := bindN_ok e4
        cases e5
        unfold inner at eu
        obtain ⟨it1, m6, ei6, eu⟩ := bindN_ok eu
        have S44 := S4.step s4
        refine ⟨δ3, m3, ι4, S44, M4, ?_⟩
        rw [ei6]
        intro J1 H6 ι6 s6 M6 R6
        have kc6 := kc4.step s6 M6
        have S6 := S44.step s6
        refine ⟨fun j k H => k = it1.items.length - j ∧ j ≤ it1.items.length ∧ ∃ m ι ac us', KC (gx X) D ι1 H1 ι H m ac ∧ Mv ι6 H6 ι H ∧ compL g1 ft1 (elt fe) it1.ok (wipeD δ3 vs1) (it1.items.drop j) m = .ok us' m4 ∧ ac ++ us' ++ ws = zs,
          ⟨_, rfl, Nat.zero_le _, m6, ι6, acc, us, kc6, .refl _ _, eu, by rw [List.append_assoc]; exact ea⟩, ?_⟩
        rintro j k H7 ⟨rfl, hj, m7, ι7, ac7, us7, kc7, mv7, e7, ea7⟩
        by_cases hlt1 : j < it1.items.length
        · right
          rw [List.drop_eq_getElem_cons hlt1] at e7
          unfold compL at e7
          split at e7
          case isFalse => cases e7
          rename_i ok1
          obtain ⟨go1, _⟩ := R6 ι7 H7 m7 mv7 kc7.mr ok1
          obtain ⟨go1, yl1⟩ := go1 j it1.items[j] (List.getElem?_eq_getElem hlt1)
          refine ⟨go1, fun H' => ∃ m ι ac us', KC (gx X) D ι1 H1 ι H' m ac ∧ Mv ι6 H6 ι H' ∧ compL g1 ft1 (elt fe) it1.ok (wipeD δ3 vs1) (it1.items.drop (j + 1)) m = .ok us' m4 ∧ ac ++ us' ++ ws = zs, fun H' hn => ⟨it1.items.length - (j + 1), by omega, rfl, hlt1, hn⟩, fun v8 H8 y8 => ?_⟩
          obtain ⟨sm8, rv8⟩ := yl1 v8 H8 y8
          split at e7
          · rename_i δ9 hg9
            have kc8 := kc7.step (.same sm8) (kc7.mr.same sm8)
            refine ⟨wipeD δ3 vs1, ι7, .p it1.items[j], δ9, ((S6.mv mv7).step (.same sm8)).wipe _, rv8, hg9, fun σ9 S9 t9 => ⟨(wipe_sto t9 hs1).trans wipe_twice, ?_⟩⟩
            obtain ⟨b9, m9, eb9, e9⟩ := bindN_ok e7
            refine ⟨δ9, m7, ι7, S9, kc8.mr, ?_⟩
            rw [eb9]
            rintro b' H10 ι10 s10 M10 rfl
            have kc10 := kc8.step s10 M10
            have mv10 : Mv ι6 H6 ι10 H10 := mv7.trans ((Step.same sm8).mv.trans s10.mv)
            cases b9 with
            | false =>
              rw [if_neg (by decide)] at e9 ⊢
              exact ⟨m9, ι10, ac7, us7, kc10, mv10, e9, ea7⟩
            | true =>
              rw [if_pos rfl] at e9 ⊢
              obtain ⟨p9, m11, ep, e11⟩ := bindN_ok e9
              obtain ⟨q9, m12, eq, e12⟩ := bindN_ok e11
              cases e12
              unfold elt at ep
              obtain ⟨d, m13, ed, e13⟩ := bindN_ok ep
              refine ⟨δ9, m9, ι10, S9.step s10, M10, ?_⟩
              rw [ed]
              intro v' H5 ι5 s5 M5 r5
              have kc5 := kc10.step s5 M5
              cases d with
              | p y =>
                cases e13
                obtain ⟨vs, hd, r⟩ := kc5.dd
                refine ⟨vs, hd, ?_, _, ι5, ac7 ++ [y], q9, kc5.push hD hd r r5, mv10.trans (s5.mv.trans (.hidden kc5.inh)), eq, by rw [← ea7]; simp⟩
                have : (ac7 ++ ([y] ++ q9) ++ ws).length ≤ 16777216 := by rw [ea7]; exact hlen
                rw [sizeLine_eq, ← r.length]
                simp at this
                omega
              | ref j => cases e13
              | und => cases e13
          · cases e7
        · left
          have ei : j = it1.items.length := by omega
          subst ei
          rw [List.drop_length] at e7
          unfold compL at e7
          split at e7
          · rename_i ok1
            cases e7
            rw [List.append_nil] at ea7
            exact ⟨(R6 ι7 H7 _ mv7 kc7.mr ok1).2, _, ι7, ac7, ws, kc7, ew, ea7⟩
          · cases e7
    · cases e2
  · left
    have ei : i = it.items.length := by omega
    subst ei
    rw [List.drop_length] at e2
    unfold compL at e2
    split at e2
    · rename_i ok
      cases e2
      rw [List.append_nil] at ea
      subst ea
      obtain ⟨MF, RF⟩ := kc.fin ⟨m1, M1⟩ hD
      exact ⟨(R1 ι2 H2 _ (kc.mv hD) kc.mr ok).2, h2 _ H2 ⟨ι2.at_, ι1.hid⟩ kc.st MF RF⟩
    · cases e2
theorem de_lc2 (hc : X.calm = true) (hN : X.N.Nodup) (hi : DI X W tg iter fi) (ok : BlkOk X.N X.env.scope scope own)
    (hg : ∀ (s : Shared) (H : Hp) (C : Addr) (cl : List (Str × Addr)) (fp : List Addr), DG (X.blk s H scope (compEnvC scope cl C X.env) fp) tg g is) (ht : ∀ (s : Shared) (H : Hp) (C : Addr) (cl : List (Str × Addr)) (fp : List Addr), DBs (X.blk s H scope (compEnvC scope cl C X.env) fp) WN ifs ft)
    (hi1 : ∀ (s : Shared) (H : Hp) (C : Addr) (cl : List (Str × Addr)) (fp : List Addr), DI (X.blk s H scope (compEnvC scope cl C X.env) fp) WN tg1 iter1 fi1)
    (hg1 : ∀ (s : Shared) (H : Hp) (C : Addr) (cl : List (Str × Addr)) (fp : List Addr), DG (X.blk s H scope (compEnvC scope cl C X.env) fp) tg1 g1 is1) (ht1 : ∀ (s : Shared) (H : Hp) (C : Addr) (cl : List (Str × Addr)) (fp : List Addr), DBs (X.blk s H scope (compEnvC scope cl C X.env) fp) WN ifs1 ft1)
    (he : ∀ (s : Shared) (H : Hp) (C : Addr) (cl : List (Str × Addr)) (fp : List Addr), DE (X.blk s H scope (compEnvC scope cl C X.env) fp) WN ee fe) (hv : ∀ i ∈ vs1, i ∈ own.map (·.2) := by decide) (hs : ∀ i ∈ is, i ∈ own.map (·.2) := by decide) (hs1 : ∀ i ∈ is1, i ∈ vs1 := by decide)
    (hf : ∀ x, foldedSetIterable iter X.env x = pure x := by intro _; rfl) (hf1 : ∀ env x, foldedSetIterable iter1 env x = pure x := by intro _ _; rfl) :
    DE X W (.ListComp ee [⟨tg, iter, ifs, 0⟩, ⟨tg1, iter1, ifs1, 0⟩] scope pos) (sLc2 fi g ft fi1 g1 ft1 fe (own.map (·.2)) vs1) :=
  (pe_lc2 (wi := tDI X W fi) (g := tDG X g is) (tt := tDB X WN ft) (te := tD X WN fe) (wi1 := tDI X WN fi1) (g1 := tDG X g1 is1) (tt1 := tDB X WN ft1) hc hN hi ok hv hg ht hi1 hg1 ht1 he hf hf1).conv fun σ H Q h => lc2_conv hs hs1 σ H Q h
end
end DL

set_option Elab.async false
set_option linter.all false
set_option maxRecDepth 100000
/-! The data layer, part j: what is written; statements. -/
namespace DL
open PySem PySem.Spec PyProof.Rows L2

/-! ### an object of ours is written -/
section
variable {G : Gx} {ι : Io} {H : Hp} {m : Mem} {i : Nat} {a : Addr} {u0 u : HO} {o : MO}
theorem Step.put (hi : ι.at_[i]? = some (some a)) (h : H a = some u0) (nt : NoTbl u0) : Step ι H ι (upd H a u) where
  len := Nat.le_refl _
  pre := fun j q e l => .inl e
  keep := fun b q e n _ => by rw [upd_ne (fun z => n (by rw [z]; exact List.mem_of_getElem? hi))]; exact e
  new := fun b e n => absurd e n
  tbl := fun b ps e => ⟨#[], by rw [upd_ne (fun z => by rw [z, h] at e; cases e; exact nt _ rfl), e]; simp⟩
  hid := rfl
theorem MRel.put (M : MRel G H ι m) (hi : ι.at_[i]? = some (some a)) (h : H a = some u0) (nt : NoTbl u0) (ob : MObj G (upd H a u) ι a o) : MRel G (upd H a u) ι (m.set i (some o)) where
  len := by rw [List.length_set]; exact M.len
  inj := M.inj
  obj := fun j b e => by
    by_cases z : i = j
    · subst z
      rw [hi] at e
      cases e
      have l : i < m.length := by rw [← M.len]; exact (List.getElem?_eq_some_iff.mp hi).1
      exact ⟨o, by rw [List.getElem?_set_self l], ob⟩
    · obtain ⟨o', q, ob'⟩ := M.obj j b e
      exact ⟨o', by rw [List.getElem?_set_ne z]; exact q, ob'.to (.put hi h nt) (upd_ne fun w => z (M.inj i j a hi (by rw [← w]; exact e)))⟩
  gon := fun j e => by
    have z : i ≠ j := fun z => by rw [z] at hi; rw [hi] at e; cases e
    rw [List.getElem?_set_ne z]
    exact M.gon j e
  hid := fun b e => by
    obtain ⟨⟨v, hv⟩, n⟩ := M.hid b e
    have hb : b ≠ a := fun z => n (by rw [z]; exact List.mem_of_getElem? hi)
    exact ⟨⟨v, by rw [upd_ne hb]; exact hv⟩, n⟩
end
/-- an entry is put -/
def putA {κ α : Type} [DecidableEq κ] (ks : List κ) (xs : List α) (k : κ) (v : α) : List α := if (ks.any fun j => decide (j = k)) = true then List.zipWith (fun j x => if j = k then v else x) ks xs else xs ++ [v]
def putJ {κ : Type} [DecidableEq κ] (ks : List κ) (k : κ) : List κ := if (ks.any fun j => decide (j = k)) = true then ks else ks ++ [k]
theorem rep_zipWith {G : Gx} {H : Hp} {ι : Io} {κ : Type} [DecidableEq κ] {k : κ} {y : P} {v : V} (ry : Rep G H ι y v) : ∀ {ks : List κ} {xs : List P} {vs : List V}, RepL G H ι xs vs → RepL G H ι (List.zipWith (fun j x => if j = k then y else x) ks xs) (List.zipWith (fun j x => if j = k then v else x) ks vs)
  | [], xs, vs, r => by simp [RepL]
  | j :: ks, [], vs, r => by simp only [RepL] at r; subst r; simp [RepL]
  | j :: ks, x :: xs, vs, r => by
    simp only [RepL] at r
    obtain ⟨w, t, e, r1, r2⟩ := r
    subst e
    rw [List.zipWith_cons_cons, List.zipWith_cons_cons]
    refine .cons ?_ (rep_zipWith ry r2)
    by_cases z : j = k
    · rw [if_pos z, if_pos z]; exact ry
    · rw [if_neg z, if_neg z]; exact r1
theorem RepL.putA {G : Gx} {H : Hp} {ι : Io} {κ : Type} [DecidableEq κ] {k : κ} {y : P} {v : V} {ks : List κ} {xs : List P} {vs : List V} (r : RepL G H ι xs vs) (ry : Rep G H ι y v) : RepL G H ι (putA ks xs k y) (putA ks vs k v) := by
  unfold DL.putA
  split
  · exact rep_zipWith ry r
  · exact r.append (.one ry)
theorem putA_len {κ α : Type} [DecidableEq κ] {ks : List κ} {xs : List α} {k : κ} {v : α} (h : ks.length = xs.length) : (putJ ks k).length = (putA ks xs k v).length := by
  unfold putJ putA
  split
  · rw [List.length_zipWith, h, Nat.min_self]
  · simp [h]
theorem putK_zip {κ : Type} [DecidableEq κ] {ks : List κ} {vs : List V} {k : κ} {v : V} (h : ks.length = vs.length) : putK (ks.zip vs) k v = (putJ ks k).zip (putA ks vs k v) := by
  have ea : ((ks.zip vs).any fun kv => decide (kv.1 = k)) = ks.any fun j => decide (j = k) := by
    clear v
    induction ks generalizing vs with
    | nil => simp
    | cons j ks ih =>
      cases vs with
      | nil => simp at h
      | cons w vs => simp only [List.zip_cons_cons, List.any_cons]; rw [ih (by simpa using h)]
  unfold putK putJ putA
  rw [ea]
  split
  · clear ea
    rename_i q
    clear q
    induction ks generalizing vs with
    | nil => simp
    | cons j ks ih =>
      cases vs with
      | nil => simp at h
      | cons w vs =>
        simp only [List.zip_cons_cons, List.map_cons, List.zipWith_cons_cons]
        rw [ih (by simpa using h)]
        by_cases z : j = k
        · rw [if_pos z, if_pos z]
        · rw [if_neg z, if_neg z]
  · rw [List.zip_append (by exact h)]
    rfl

/-! ### o[k] = v -/
def setO (o : MO) (k v : P) : Option MO := match o with
  | .lst xs => (match k with
    | .int j => (ixN xs.length j).map fun n => .lst (xs.set n v)
    | _ => none)
  | .dK ks xs => (match k.ky with
    | some j => if ks.length < 16777216 then some (.dK (putJ ks j) (putA ks xs j v)) else none
    | none => none)
  | .dT ks xs => (match k with
    | .tup as => if (P.tup as).keyD = true ∧ ks.length < 16777216 then some (.dT (if ((P.nkL ks).any fun j => decide (j = (P.tup as).nk)) = true then ks else ks ++ [.tup as]) (putA (P.nkL ks) xs (P.tup as).nk v)) else none
    | _ => none)
  | .ins _ _ _ => none
def setM (o k v : D) (m : Mem) : Option Mem := match o, k, v with
  | .ref i, .p k, .p v => (match m[i]? with
    | some (some o) => (setO o k v).map fun o' => m.set i (some o')
    | _ => none)
  | _, _, _ => none
theorem nkL_len : ∀ ks : List P, (P.nkL ks).length = ks.length
  | [] => rfl
  | k :: ks => by rw [P.nkL, List.length_cons, List.length_cons, nkL_len ks]
theorem nkL_append (ks : List P) (k : P) : P.nkL (ks ++ [k]) = P.nkL ks ++ [k.nk] := by
  induction ks with
  | nil => rfl
  | cons j ks ih => rw [List.cons_append, P.nkL, P.nkL, ih]; rfl
theorem keyedL_append (ks : List P) (k : P) : P.keyedL (ks ++ [k]) = (P.keyedL ks && k.keyed) := by
  induction ks with
  | nil => simp [P.keyedL]
  | cons j ks ih => rw [List.cons_append, P.keyedL, P.keyedL, ih, Bool.and_assoc]
theorem atKey_any {k : NestedKey} : ∀ {ys : List (NestedKey × Addr × Value)}, (atKey ys k).isSome = (ys.map (·.1)).any fun j => decide (j = k)
  | [] => by simp [atKey]
  | y :: ys => by
    by_cases h : y.1 = k
    · simp [atKey, h]
    · have e : atKey (y :: ys) k = atKey ys k := by simp [atKey, h]
      rw [e, atKey_any]
      simp [h]
theorem vals_put {k : NestedKey} {v : V} {u : Value} (rv : RelV v u) : ∀ {ys : List (NestedKey × Addr × Value)} {vs : List V}, Vals vs (ys.map fun y => y.2.2) →
    Vals (List.zipWith (fun j x => if j = k then v else x) (ys.map (·.1)) vs) (ys.map ((fun y => y.2.2) ∘ putAt k u))
  | [], vs, w => by cases w; exact .nil
  | y :: ys, vs, w => by
    rw [List.map_cons] at w
    cases w with
    | cons w1 w2 =>
      rw [List.map_cons, List.map_cons, List.zipWith_cons_cons]
      refine .cons ?_ (vals_put rv w2)
      by_cases z : y.1 = k
      · rw [if_pos z]
        have e : (putAt k u y).2.2 = u := by unfold putAt; rw [if_pos z]
        show RelV v (putAt k u y).2.2
        rw [e]; exact rv
      · rw [if_neg z]
        have e : (putAt k u y) = y := by unfold putAt; rw [if_neg z]
        show RelV _ (putAt k u y).2.2
        rw [e]; exact w1
section
variable {X : Cx}
def rSetM (X : Cx) : TSet := fun o k v H Q => ∃ ι m d e f m', MRel (gx X) H ι m ∧ RepD (gx X) H ι d o ∧ RepD (gx X) H ι e k ∧ RepD (gx X) H ι f v ∧ setM d e f m = some m' ∧ ∀ H' ι', Step ι H ι' H' → MRel (gx X) H' ι' m' → Q H'
theorem set_all (hu : X.A.units + 110 < cLine) : PSet X (rSetM X) := by
  intro pins s σ H o k v ov kv u Q I ro rk rv h
  obtain ⟨ι, m, d, e, f, m', M, rd, re, rf, es, q⟩ := h
  unfold setM at es
  split at es
  · rename_i i x y
    split at es
    · rename_i o' hm
      obtain ⟨o2, e2, e3⟩ := Option.map_eq_some_iff.mp es
      subst e3
      obtain ⟨a, ea, qa⟩ := rd
      obtain ⟨hi, ob⟩ := M.live hm qa
      subst ea
      unfold setO at e2
      split at e2
      · rename_i xs
        obtain ⟨vs, hH, r⟩ := ob
        split at e2
        · rename_i j
          obtain ⟨n, e4, e5⟩ := Option.map_eq_some_iff.mp e2
          subst e5
          simp only [RepD, Rep] at re
          refine set_list pins s σ H (.ref a) k v ov kv u Q I ro rk rv ⟨a, vs, j, n, rfl, re, hH, by rw [← r.length]; exact e4, ?_⟩
          have st : Step ι H ι (upd H a (.lst (vs.set n v))) := .put hi hH (fun ps z => by cases z)
          exact q _ _ st (M.put hi hH (fun ps z => by cases z) ⟨_, upd_same, (RepL.step st _ _ r).set (Rep.step st _ _ rf) n⟩)
        · cases e2
      · rename_i ks xs
        obtain ⟨vs, hH, hl, r⟩ := ob
        split at e2
        · rename_i j hj
          split at e2
          · rename_i hz
            cases e2
            have ek : k = kV j := ky_rep hj (Rep.rn re)
            cases ro
            have hl2 : ks.length = vs.length := hl.trans r.length
            refine d_setItem (y := k) (v := v) (A := X.A) (E := X.xe) (by omega) I (.inl ⟨ks.zip vs, j, hH, ek, by rw [List.length_zip, ← hl2, Nat.min_self, sizeLine_eq]; exact hz, rfl⟩) rk rv fun s' I' => ⟨_, I', ?_⟩
            rw [putK_zip hl2]
            have st : Step ι H ι (upd H a (.dK ((putJ ks j).zip (putA ks vs j v)))) := .put hi hH (fun ps z => by cases z)
            exact q _ _ st (M.put hi hH (fun ps z => by cases z) ⟨_, upd_same, putA_len hl, (RepL.step st _ _ r).putA (Rep.step st _ _ rf)⟩)
          · cases e2
        · cases e2
      · rename_i ks xs
        obtain ⟨o, ys, vs, hH, t, e1, e4, r1, w, r2⟩ := ob
        split at e2
        · rename_i as
          split at e2
          · rename_i hc
            cases e2
            obtain ⟨k1, k2⟩ := keyD_of hc.1
            have rk0 : Rep (gx X) H ι (.tup as) k := re
            have rk1 := re
            simp only [RepD, Rep] at rk1
            obtain ⟨b, bs, eb, _, _⟩ := rk1
            subst eb
            cases ro
            cases rk
            have hkey : (nestedKind X.prog X.w).is s.heap (P.tup as).nk b := ⟨Rep.key I _ _ _ k1 rk0 rfl, k2⟩
            have hdict := tab_dict I (.inl hH) t e1 e4 r1
            have hylen : ys.length = ks.length := by
              have := congrArg List.length e1
              rw [List.length_map, nkL_len] at this
              exact this
            refine wpAny_setItem_heap (knd := nestedKind X.prog X.w) (by show X.A.units + 1 + 8 < cLine; omega) hkey hdict (fun h' dd' hs => ?_) t.len
            obtain ⟨o', es', ep', ho', hex', hd', he', hk', hn'⟩ := dd'
            have tab' : TabO (gx X) a o' (storedH ys (P.tup as).nk b u) := by
              refine ⟨hex', ⟨es', ep', hd', he'⟩, hn', t.sys, ?_, fun y hy => (hk' y hy).2⟩
              unfold storedH
              split
              · rw [List.length_map]; exact t.len
              · rw [List.length_append, hylen, sizeLine_eq]; simp; omega
            have st : Step ι H ι (upd H a (ExactO a o')) := .put hi hH (fun ps z => by cases z)
            have okO : ObjOk X.prog X.w (upd H a (ExactO a o')) h' a (ExactO a o') := by
              exact ⟨ho', ⟨o', ho'⟩, fun h1 h2 e k => k _ e⟩
            refine ⟨_, d_write I (by rw [hH]; exact True.intro) hs ⟨o', ho'⟩ okO, ?_⟩
            refine q _ _ st (M.put hi hH (fun ps z => by cases z) ?_)
            have ea : (atKey ys (P.tup as).nk).isSome = (P.nkL ks).any fun j => decide (j = (P.tup as).nk) := by rw [atKey_any, e1]
            have r1' := RepL.step st _ _ r1
            have r2' := RepL.step st _ _ r2
            have rf' := Rep.step st _ _ rf
            have rk' := Rep.step st _ _ rk0
            by_cases hin : ((P.nkL ks).any fun j => decide (j = (P.tup as).nk)) = true
            · rw [if_pos hin]
              have es1 : storedH ys (P.tup as).nk b u = ys.map (putAt (P.tup as).nk u) := by unfold storedH; rw [ea, if_pos hin]
              have e5 : ∀ z : NestedKey × Addr × Value, (putAt (P.tup as).nk u z).1 = z.1 ∧ (putAt (P.tup as).nk u z).2.1 = z.2.1 := fun z => by unfold putAt; split <;> exact ⟨rfl, rfl⟩
              refine ⟨o', storedH ys (P.tup as).nk b u, putA (P.nkL ks) vs (P.tup as).nk v, upd_same, tab', ?_, e4, ?_, ?_, r2'.putA rf'⟩
              · rw [es1, List.map_map, ← e1]; exact List.map_congr_left fun z _ => (e5 z).1
              · rw [es1, List.map_map]
                have : (ys.map ((fun y : NestedKey × Addr × Value => V.ref y.2.1) ∘ putAt (P.tup as).nk u)) = ys.map fun y => V.ref y.2.1 := List.map_congr_left fun z _ => by show V.ref _ = _; rw [(e5 z).2]
                rw [this]; exact r1'
              · rw [es1, List.map_map]
                unfold putA
                rw [if_pos hin, ← e1]
                exact vals_put rv w
            · rw [if_neg hin]
              have es1 : storedH ys (P.tup as).nk b u = ys ++ [((P.tup as).nk, b, u)] := by unfold storedH; rw [ea, if_neg hin]
              refine ⟨o', storedH ys (P.tup as).nk b u, vs ++ [v], upd_same, tab', ?_, ?_, ?_, ?_, ?_⟩
              · rw [es1, List.map_append, e1, nkL_append]; rfl
              · rw [keyedL_append, e4, k1]; rfl
              · rw [es1, List.map_append]; exact r1'.append (.one rk')
              · rw [es1, List.map_append]; exact Vals.append w (.cons rv .nil)
              · unfold putA; rw [if_neg hin]; exact r2'.append (.one rf')
          · cases e2
        · cases e2
      · cases e2
    · cases es
  · cases es
end
end DL

set_option Elab.async false
set_option linter.all false
set_option maxRecDepth 100000
/-! The data layer, part k: statements, methods of lists. -/
namespace DL
open PySem PySem.Spec PyProof.Rows L2

/-! ### statements -/
def sSeq (f g : FS) : FS := fun δ m => match f δ m with
  | .nx δ m => g δ m
  | r => r
def sNx : FS := fun δ m => .nx δ m
def sBad : FS := fun _ _ => .bad
def sRet (fa : FE) : FS := fun δ m => thenS (fa δ m) δ fun d m => .rt d m
def sDrop (fa : FE) : FS := fun δ m => thenS (fa δ m) δ fun _ m => .nx δ m
def sIfS (gc : FB) (f g : FS) : FS := fun δ m => thenS (gc δ m) δ fun c m => if c = true then f δ m else g δ m
def sAsgG (fa : FE) (g : FG) : FS := fun δ m => thenS (fa δ m) δ fun d m => match g d δ with
  | some δ' => .nx δ' m
  | none => .bad
def sSub (fv fo fk : FE) : FS := fun δ m => thenS (fv δ m) δ fun v m => thenS (fo δ m) δ fun o m => thenS (fk δ m) δ fun k m => match setM o k v m with
  | some m => .nx δ m
  | none => .bad
def sPar2 (fr : FA) (i j : Nat) : FS := fun δ m => thenS (fr δ m) δ fun ds m => match ds with
  | [d, e] => if i < δ.length ∧ j < δ.length then .nx ((δ.set i d).set j e) m else .bad
  | _ => .bad
def sPar3 (fr : FA) (i j k : Nat) : FS := fun δ m => thenS (fr δ m) δ fun ds m => match ds with
  | [d, e, f] => if i < δ.length ∧ j < δ.length ∧ k < δ.length then .nx (((δ.set i d).set j e).set k f) m else .bad
  | _ => .bad
section
variable {X : Cx} {W : WX} {st : Stmt} {rest p q : List Stmt} {e c o k tg : Expr} {fa fv fo fk : FE} {fr : FA} {gc : FB} {f g : FS} {h : FG} {is : List Nat} {pos : Pos}
theorem dts_nil : DTs X W [] sNx := pss_nil.conv fun E σ H ⟨δ, m, ι, S, M, h⟩ => h σ H ι (.refl _ _) M S
theorem dts_cons (h1 : DT X W st f) (h2 : DTs X W rest g) : DTs X W (st :: rest) (sSeq f g) := (pss_cons h1 h2).conv fun E σ H ⟨δ, m, ι, S, M, h⟩ => by
  refine ⟨δ, m, ι, S, M, ?_⟩
  unfold sSeq at h
  cases q : f δ m with
  | nx δ1 m1 => rw [q] at h; exact fun σ' H' ι' s Mr Sr => ⟨δ1, m1, ι', Sr, Mr, SRP.step s h⟩
  | rt d m1 => rw [q] at h; exact h
  | bk δ1 m1 => rw [q] at h; exact h
  | ct δ1 m1 => rw [q] at h; exact h
  | ex x δ1 m1 => rw [q] at h; exact h
  | bad => rw [q] at h; exact h
theorem dts_one (h1 : DT X W st f) : DTs X W [st] f := pss_one h1
theorem dt_pass : DT X W (.Pass pos) sNx := ps_pass.conv fun E σ H ⟨δ, m, ι, S, M, h⟩ => h σ H ι (.refl _ _) M S
theorem dt_never : DT X W st sBad := ps_never.conv fun E σ H ⟨δ, m, ι, S, M, h⟩ => h
theorem dts_never : DTs X W rest sBad := pss_never.conv fun E σ H ⟨δ, m, ι, S, M, h⟩ => h
theorem dt_ret (ha : DE X W e fa) : DT X W (.Return (some e) pos) (sRet fa) := (ps_ret ha).conv fun E σ H ⟨δ, m, ι, S, M, h⟩ =>
  ⟨δ, m, ι, S, M, SRP.then S h fun d m1 v H1 ι1 _ s1 M1 r1 S1 h1 => h1 v H1 ι1 (.refl _ _) M1 r1⟩
theorem dt_retN : DT X W (.Return none pos) (sRet (sC .non)) := ps_retN.conv fun E σ H ⟨δ, m, ι, S, M, h⟩ => h .non H ι (.refl _ _) M (by simp [RepD, Rep])
theorem dt_expr (ha : DE X W e fa) (hs : swapsWith e none pos.line X.env = pure false := by rfl) : DT X W (.Expr e pos) (sDrop fa) := (ps_expr ha hs).conv fun E σ H ⟨δ, m, ι, S, M, h⟩ =>
  ⟨δ, m, ι, S, M, SRP.then S h fun d m1 v H1 ι1 _ s1 M1 r1 S1 h1 => h1 σ H1 ι1 (.refl _ _) M1 S1⟩
theorem dt_if (hc : DB X W c gc) (ha : DTs X W p f) (hb : DTs X W q g) : DT X W (.If c p q pos) (sIfS gc f g) := (ps_if hc ha hb).conv fun E σ H ⟨δ, m, ι, S, M, h⟩ =>
  ⟨δ, m, ι, S, M, SRP.then S h fun d m1 v H1 ι1 _ s1 M1 r1 S1 h1 => by
    subst r1
    cases d with
    | true => rw [if_pos rfl] at h1; rw [if_pos rfl]; exact ⟨δ, m1, ι1, S1, M1, h1⟩
    | false => rw [if_neg (by decide)] at h1; rw [if_neg (by decide)]; exact ⟨δ, m1, ι1, S1, M1, h1⟩⟩
theorem dt_set {i : Nat} {x : Str} {pos' : Pos} (hN : X.N.Nodup) (ha : DE X W e fa) (hs : swapsWith e (some (.Name x pos')) pos.line X.env = pure false := by rfl) (hi : X.N[i]? = some x := by rfl) (hx : Loc X.env.scope x := by first | exact Or.inl rfl | exact Or.inr rfl)
    (hf : X.fn x = true ∨ X.env.scope.names.lookup x = some .local := by first | exact .inl rfl | exact .inr rfl | assumption) : DT X W (.Assign [.Name x pos'] e pos) (sAsgN fa i) :=
  (ps_set hN hi hx ha hs hf).conv fun E σ H h => asgN_conv h
theorem dt_asg (ha : DE X W e fa) (hg : DG X tg h is) (hs : swapsWithSole [tg] e pos.line X.env = pure false := by rfl) (hw : swappedStores [tg] e X.env = pure none := by rfl)
    (h1 : (assignEach [tg] X.env).map (·.2) = [assign tg X.env] := by rfl) : DT X W (.Assign [tg] e pos) (sAsgG fa h) :=
  (ps_asg ha hg hs hw h1).conv fun E σ H ⟨δ, m, ι, S, M, h⟩ => ⟨δ, m, ι, S, M, SRP.then S h fun d m1 v H1 ι1 _ s1 M1 r1 S1 h1 => by
    split at h1
    · rename_i δ' hg
      exact ⟨δ, ι1, d, δ', S1, r1, hg, fun σ' S' _ => h1 σ' H1 ι1 (.refl _ _) M1 S'⟩
    · exact h1.elim⟩
theorem dt_sub {tpos : Pos} (hu : X.A.units + 110 < cLine) (hv : DE X W e fv) (ho : DE X W o fo) (hk : DE X W k fk) (hs : swapsWithSole [.Subscript o k tpos] e pos.line X.env = pure false := by rfl) (hw : swappedStores [.Subscript o k tpos] e X.env = pure none := by rfl)
    (h1 : (assignEach [.Subscript o k tpos] X.env).map (·.2) = [assign (.Subscript o k tpos) X.env] := by rfl)
    (ha : ∀ v, assign (.Subscript o k tpos) X.env v = (do
      let ov ← holding [v] (eval o X.env)
      let iv ← holding [v, ov] (eval k X.env)
      standAt tpos
      holding [v, ov, iv] (setItem ov iv v)
      release [v, ov, iv] []) := by intro _; rfl) : DT X W (.Assign [.Subscript o k tpos] e pos) (sSub fv fo fk) :=
  (ps_asg hv (pg_sub ho hk (set_all hu) ha) hs hw h1).conv fun E σ H ⟨δ, m, ι, S, M, h⟩ => ⟨δ, m, ι, S, M, SRP.then S h fun d m1 v H1 ι1 _ s1 M1 r1 S1 h1 =>
    ⟨δ, m1, ι1, S1, M1, SRP.then S1 h1 fun d2 m2 v2 H2 ι2 _ s2 M2 r2 S2 h2 => ⟨δ, m2, ι2, S2, M2, SRP.then S2 h2 fun d3 m3 v3 H3 ι3 _ s3 M3 r3 S3 h3 => by
      split at h3
      · rename_i m4 hm
        exact ⟨ι3, m3, d2, d3, d, m4, M3, r2.step s3, r3, r1.step (s2.trans s3), hm, fun H' ι' s M' => h3 σ H' ι' s M' (S3.step s)⟩
      · exact h3.elim⟩⟩⟩
theorem RepDL.three {G : Gx} {H : Hp} {ι : Io} {d e f : D} {vs : List V} (h : RepDL G H ι [d, e, f] vs) : ∃ v u w, vs = [v, u, w] ∧ RepD G H ι d v ∧ RepD G H ι e u ∧ RepD G H ι f w := by
  obtain ⟨v, t, e, r, h⟩ := h
  obtain ⟨u, w, e2, r2, r3⟩ := RepDL.two h
  exact ⟨v, u, w, by rw [e, e2], r, r2, r3⟩
theorem dt_par2 {i j : Nat} {x y : Str} {a b : Expr} {px py pt : Pos} {kt k2 pt2} (hc : X.calm = true) (hN : X.N.Nodup) (ha : DA X W [a, b] fr)
    (hw : swappedStores [.Tuple [.Name x px, .Name y py] kt pt] (.Tuple [a, b] k2 pt2) X.env = pure (some [x, y]) := by rfl)
    (hs : swapsWithSole [.Tuple [.Name x px, .Name y py] kt pt] (.Tuple [a, b] k2 pt2) pos.line X.env = pure false := by rfl)
    (hi : X.N[i]? = some x := by rfl) (hj : X.N[j]? = some y := by rfl) (hij : i ≠ j := by decide) (hx : X.env.scope.names.lookup x = some .local := by rfl) (hy : X.env.scope.names.lookup y = some .local := by rfl) :
    DT X W (.Assign [.Tuple [.Name x px, .Name y py] kt pt] (.Tuple [a, b] k2 pt2) pos) (sPar2 fr i j) :=
  (ps_par hc hN hi hj hij hx hy ha hw hs).conv fun E σ H ⟨δ, m, ι, S, M, h⟩ => ⟨δ, m, ι, S, M, SRP.then S h fun ds m1 vs H1 ι1 _ s1 M1 r1 S1 h1 => by
    split at h1
    · split at h1
      · obtain ⟨v, u, ev, r, r'⟩ := r1.two
        exact ⟨v, u, ev, h1 _ H1 ι1 (.refl _ _) M1 ((S1.set r i).set r' j)⟩
      · exact h1.elim
    · exact h1.elim⟩
theorem dt_par3 {i j l : Nat} {x y z : Str} {a b c : Expr} {px py pz pt : Pos} {kt k2 pt2} (hc : X.calm = true) (hN : X.N.Nodup) (ha : DA X W [a, b, c] fr)
    (hw : swappedStores [.Tuple [.Name x px, .Name y py, .Name z pz] kt pt] (.Tuple [a, b, c] k2 pt2) X.env = pure (some [x, y, z]) := by rfl)
    (hs : swapsWithSole [.Tuple [.Name x px, .Name y py, .Name z pz] kt pt] (.Tuple [a, b, c] k2 pt2) pos.line X.env = pure false := by rfl)
    (hi : X.N[i]? = some x := by rfl) (hj : X.N[j]? = some y := by rfl) (hl : X.N[l]? = some z := by rfl) (hij : i ≠ j := by decide) (hil : i ≠ l := by decide) (hjl : j ≠ l := by decide)
    (hx : X.env.scope.names.lookup x = some .local := by rfl) (hy : X.env.scope.names.lookup y = some .local := by rfl) (hz : X.env.scope.names.lookup z = some .local := by rfl) :
    DT X W (.Assign [.Tuple [.Name x px, .Name y py, .Name z pz] kt pt] (.Tuple [a, b, c] k2 pt2) pos) (sPar3 fr i j l) :=
  (ps_par3 hc hN hi hj hl hij hil hjl hx hy hz ha hw hs).conv fun E σ H ⟨δ, m, ι, S, M, h⟩ => ⟨δ, m, ι, S, M, SRP.then S h fun ds m1 vs H1 ι1 _ s1 M1 r1 S1 h1 => by
    split at h1
    · split at h1
      · obtain ⟨v, u, w, ev, r, r', r''⟩ := r1.three
        exact ⟨v, u, w, ev, h1 _ H1 ι1 (.refl _ _) M1 (((S1.set r i).set r' j).set r'' l)⟩
      · exact h1.elim
    · exact h1.elim⟩
end

/-! ### {} with tuples as keys -/
def sDictT : FE := fun _ m => .ok (.ref m.length) (m ++ [some (.dT [] [])])
theorem de_dictT {X : Cx} {W : WX} {pos : Pos} : DE X W (.Dict [] [] pos) sDictT := ⟨fun pins s σ H Q I ⟨δ, m, ι, S, M, h⟩ => by
  have hn : H s.heap.objs.size = none := I.hok.fresh (Nat.le_refl _)
  refine wpAny_Dict_empty ⟨.ref s.heap.objs.size, _, I.laid (a := s.heap.objs.size) (o := ExactO s.heap.objs.size { cls := .type "dict", data := .dict #[] }) (t' := s.toks) (fun _ _ q => Heap.get?_push_of_some _ q) (Nat.le_refl _) ?_, rfl, ?_⟩
  · exact ⟨Heap.get?_push_size _ rfl, ⟨_, Heap.get?_push_size _ rfl⟩, fun h1 h2 e k => k _ e⟩
  · refine ERP.alloc (o := .dT [] []) M hn ⟨_, [], [], upd_same, ⟨?_, ⟨#[], _, rfl, rfl⟩, ?_, ?_, ?_, ?_⟩, rfl, rfl, .nil, .nil, .nil⟩ h
    · exact ⟨rfl, rfl, rfl⟩
    · exact List.nodup_nil
    · exact beq_eq_false_iff_ne.mpr (Ne.symm (Nat.ne_of_lt I.big))
    · exact Nat.zero_le _
    · intro y hy; cases hy⟩
end DL

set_option Elab.async false
set_option linter.all false
set_option maxRecDepth 100000
/-! The data layer, part l: calls of built-ins. -/
namespace DL
open PySem PySem.Spec PyProof.Rows L2

section
variable {X : Cx} {W : WX} {e : Expr} {es : List Expr} {fa : FE} {fr : FA} {p pos : Pos} {x : Str} {id T : String}
def sCall (g : List P → Option P) (fr : FA) : FE := fun δ m => (fr δ m).bind fun ds m => opL g ds m
theorem de_callB {g : List P → Option P} (hc : CallR X (.builtin id) (rPL X g)) (hm : X.mg x = none) (hv : bootBuiltins x = some (.builtin id)) (ha : DA X W (e :: es) fr) (hg : Gl X x := by rfl) (hn : x ≠ "__name__" := by decide) (hdb : (x == ("__debug__" : Str)) = false := by decide)
    (he : starEach (e :: es) X.env = (false, eval e X.env) :: starEach es X.env := by rfl) (hpl : (backTo pos (starEach es X.env)).any (·.1) = false := by rfl) : DE X W (.Call (.Name x p) (e :: es) [] pos) (sCall g fr) :=
  (pe_callB hc hg hm hv ha hn hdb he hpl).conv fun σ H Q ⟨δ, m, ι, S, M, h⟩ => ⟨δ, m, ι, S, M, h.seq fun ds m1 vs H1 ι1 _ s1 M1 r1 h1 => ERP.opL M1 r1 h1⟩
theorem de_callTy {g : List P → Option P} (hc : CallR X (.type T) (rPL X g)) (hm : X.mg x = none) (hv : bootBuiltins x = some (.type T)) (ha : DA X W (e :: es) fr) (hg : Gl X x := by rfl) (hn : x ≠ "__name__" := by decide) (hdb : (x == ("__debug__" : Str)) = false := by decide)
    (he : starEach (e :: es) X.env = (false, eval e X.env) :: starEach es X.env := by rfl) (hpl : (backTo pos (starEach es X.env)).any (·.1) = false := by rfl) : DE X W (.Call (.Name x p) (e :: es) [] pos) (sCall g fr) :=
  (pe_callTy hc hg hm hv ha hn hdb he hpl).conv fun σ H Q ⟨δ, m, ι, S, M, h⟩ => ⟨δ, m, ι, S, M, h.seq fun ds m1 vs H1 ι1 _ s1 M1 r1 h1 => ERP.opL M1 r1 h1⟩

/-! ### a new list -/
/-- the call makes a new list -/
def rNL (X : Cx) (g : List P → Option (List P)) : List V → Hp → VK → Prop := fun xs H Q => ∃ ι as zs, Paired (fun a x => Rn (gx X) H ι a x) as xs ∧ g as = some zs ∧ (∀ p, H p = none → ι.fre p) ∧ ∀ l vs, H l = none → RepL (gx X) H ι zs vs → Q (.ref l) (upd H l (.lst vs))
def opNL (g : List P → Option (List P)) (ds : List D) (m : Mem) : ER D := match (views ds m).bind g with
  | some z => .ok (.p (.lst z)) m
  | none => .bad
/-- .. that is written to -/
def opNM (g : List P → Option (List P)) (ds : List D) (m : Mem) : ER D := match (views ds m).bind g with
  | some z => .ok (.ref m.length) (m ++ [some (.lst z)])
  | none => .bad
def sCallL (g : List P → Option (List P)) (fr : FA) : FE := fun δ m => (fr δ m).bind fun ds m => opNL g ds m
def sCallM (g : List P → Option (List P)) (fr : FA) : FE := fun δ m => (fr δ m).bind fun ds m => opNM g ds m
variable {σ : L2.St} {ι : Io} {H : Hp} {m : Mem} {Q : VK}
theorem ERP.opNL {g : List P → Option (List P)} {ds : List D} {vs : List V} (M : MRel (gx X) H ι m) (r : RepDL (gx X) H ι ds vs) (h : ERP (gx X) W σ ι H (fun H ι => RepD (gx X) H ι) (opNL g ds m) Q) : rNL X g vs H Q := by
  unfold DL.opNL at h
  cases q : (views ds m).bind g with
  | none => rw [q] at h; exact h.elim
  | some z =>
    rw [q] at h
    obtain ⟨xs, hx, hz⟩ := Option.bind_eq_some_iff.mp q
    exact ⟨ι, xs, z, rn_views M r hx, hz, fun p hp => M.fresh hp, fun l vs hl rl => ERP.fin M h _ _ (Same.upd hl) (rep_lst hl (M.fresh hl) rl)⟩
theorem ERP.opNM {g : List P → Option (List P)} {ds : List D} {vs : List V} (M : MRel (gx X) H ι m) (r : RepDL (gx X) H ι ds vs) (h : ERP (gx X) W σ ι H (fun H ι => RepD (gx X) H ι) (opNM g ds m) Q) : rNL X g vs H Q := by
  unfold DL.opNM at h
  cases q : (views ds m).bind g with
  | none => rw [q] at h; exact h.elim
  | some z =>
    rw [q] at h
    obtain ⟨xs, hx, hz⟩ := Option.bind_eq_some_iff.mp q
    exact ⟨ι, xs, z, rn_views M r hx, hz, fun p hp => M.fresh hp, fun l vs hl rl => ERP.alloc (o := .lst z) M hl ⟨vs, upd_same, RepL.step (.alloc hl) _ _ rl⟩ h⟩
variable {g : List P → Option (List P)}
theorem de_callBL (hc : CallR X (.builtin id) (rNL X g)) (hm : X.mg x = none) (hv : bootBuiltins x = some (.builtin id)) (ha : DA X W (e :: es) fr) (hg : Gl X x := by rfl) (hn : x ≠ "__name__" := by decide) (hdb : (x == ("__debug__" : Str)) = false := by decide)
    (he : starEach (e :: es) X.env = (false, eval e X.env) :: starEach es X.env := by rfl) (hpl : (backTo pos (starEach es X.env)).any (·.1) = false := by rfl) : DE X W (.Call (.Name x p) (e :: es) [] pos) (sCallL g fr) :=
  (pe_callB hc hg hm hv ha hn hdb he hpl).conv fun σ H Q ⟨δ, m, ι, S, M, h⟩ => ⟨δ, m, ι, S, M, h.seq fun ds m1 vs H1 ι1 _ s1 M1 r1 h1 => ERP.opNL M1 r1 h1⟩
theorem de_callBM (hc : CallR X (.builtin id) (rNL X g)) (hm : X.mg x = none) (hv : bootBuiltins x = some (.builtin id)) (ha : DA X W (e :: es) fr) (hg : Gl X x := by rfl) (hn : x ≠ "__name__" := by decide) (hdb : (x == ("__debug__" : Str)) = false := by decide)
    (he : starEach (e :: es) X.env = (false, eval e X.env) :: starEach es X.env := by rfl) (hpl : (backTo pos (starEach es X.env)).any (·.1) = false := by rfl) : DE X W (.Call (.Name x p) (e :: es) [] pos) (sCallM g fr) :=
  (pe_callB hc hg hm hv ha hn hdb he hpl).conv fun σ H Q ⟨δ, m, ι, S, M, h⟩ => ⟨δ, m, ι, S, M, h.seq fun ds m1 vs H1 ι1 _ s1 M1 r1 h1 => ERP.opNM M1 r1 h1⟩
theorem de_callTyL (hc : CallR X (.type T) (rNL X g)) (hm : X.mg x = none) (hv : bootBuiltins x = some (.type T)) (ha : DA X W (e :: es) fr) (hg : Gl X x := by rfl) (hn : x ≠ "__name__" := by decide) (hdb : (x == ("__debug__" : Str)) = false := by decide)
    (he : starEach (e :: es) X.env = (false, eval e X.env) :: starEach es X.env := by rfl) (hpl : (backTo pos (starEach es X.env)).any (·.1) = false := by rfl) : DE X W (.Call (.Name x p) (e :: es) [] pos) (sCallL g fr) :=
  (pe_callTy hc hg hm hv ha hn hdb he hpl).conv fun σ H Q ⟨δ, m, ι, S, M, h⟩ => ⟨δ, m, ι, S, M, h.seq fun ds m1 vs H1 ι1 _ s1 M1 r1 h1 => ERP.opNL M1 r1 h1⟩
theorem de_callTyM (hc : CallR X (.type T) (rNL X g)) (hm : X.mg x = none) (hv : bootBuiltins x = some (.type T)) (ha : DA X W (e :: es) fr) (hg : Gl X x := by rfl) (hn : x ≠ "__name__" := by decide) (hdb : (x == ("__debug__" : Str)) = false := by decide)
    (he : starEach (e :: es) X.env = (false, eval e X.env) :: starEach es X.env := by rfl) (hpl : (backTo pos (starEach es X.env)).any (·.1) = false := by rfl) : DE X W (.Call (.Name x p) (e :: es) [] pos) (sCallM g fr) :=
  (pe_callTy hc hg hm hv ha hn hdb he hpl).conv fun σ H Q ⟨δ, m, ι, S, M, h⟩ => ⟨δ, m, ι, S, M, h.seq fun ds m1 vs H1 ι1 _ s1 M1 r1 h1 => ERP.opNM M1 r1 h1⟩
end

section
variable {X : Cx}
theorem paired1 {R : P → V → Prop} {as : List P} {xs : List V} {a : P} (h : Paired R as xs) (e : as = [a]) : ∃ x, xs = [x] ∧ R a x := by
  subst e
  cases h with
  | cons h t => cases t; exact ⟨_, rfl, h⟩
theorem paired2 {R : P → V → Prop} {as : List P} {xs : List V} {a b : P} (h : Paired R as xs) (e : as = [a, b]) : ∃ x y, xs = [x, y] ∧ R a x ∧ R b y := by
  subst e
  cases h with
  | cons h t =>
    cases t with
    | cons h' t => cases t; exact ⟨_, _, rfl, h, h'⟩
/-! ### len -/
def gLen : List P → Option P
  | [.str z] => if z.length ≤ 16777216 then some (.int (z.length : Nat)) else none
  | [.lst xs] => some (.int (xs.length : Nat))
  | [.tup xs] => some (.int (xs.length : Nat))
  | _ => none
theorem c_len : CallR X (.builtin "len") (rPL X gLen) := by
  intro pins s σ H xs us Q I r h
  obtain ⟨ι, as, z, pr, g, fr, q⟩ := h
  unfold gLen at g
  split at g
  · split at g
    · rename_i hz
      cases g
      obtain ⟨x, rfl, rx⟩ := paired1 pr rfl
      exact call_len pins s σ H _ us Q I r ⟨x, _, rfl, by rw [rn_str rx]; exact ⟨by rw [sizeLine_eq]; exact hz, rfl⟩, q _ _ (.refl _) rep_int⟩
    · cases g
  · cases g
    obtain ⟨x, rfl, rx⟩ := paired1 pr rfl
    obtain ⟨a, vs, rfl, t, rl⟩ := rn_lst rx
    exact call_len pins s σ H _ us Q I r ⟨_, _, rfl, .inl ⟨vs, .inl t, rfl⟩, q _ _ (.refl _) (by rw [rl.length]; exact rep_int)⟩
  · cases g
    obtain ⟨x, rfl, rx⟩ := paired1 pr rfl
    obtain ⟨a, vs, rfl, t, rl⟩ := rn_tup rx
    exact call_len pins s σ H _ us Q I r ⟨_, _, rfl, .inr ⟨vs, t.sq, rfl⟩, q _ _ (.refl _) (by rw [rl.length]; exact rep_int)⟩
  · cases g
/-! ### int -/
def gInt : List P → Option P
  | [.int i] => some (.int i)
  | [.bl b] => some (.int (if b then 1 else 0))
  | _ => none
theorem c_int : CallR X (.type "int") (rPL X gInt) := by
  intro pins s σ H xs us Q I r h
  obtain ⟨ι, as, z, pr, g, fr, q⟩ := h
  unfold gInt at g
  split at g
  · cases g
    obtain ⟨x, rfl, rx⟩ := paired1 pr rfl
    exact call_int1 pins s σ H _ us Q I r (.inl ⟨_, by rw [rn_int rx], q _ _ (.refl _) rep_int⟩)
  · cases g
    obtain ⟨x, rfl, rx⟩ := paired1 pr rfl
    exact call_int1 pins s σ H _ us Q I r (.inr ⟨_, by rw [rn_bl rx], q _ _ (.refl _) rep_int⟩)
  · cases g
/-! ### min(a, b), max(a, b) -/
def gMin2 : List P → Option P
  | [.int i, .int j] => some (.int (if j < i then j else i))
  | _ => none
theorem c_min2 (hc : X.calm = true) : CallR X (.builtin "min") (rPL X gMin2) := by
  intro pins s σ H xs us Q I r h
  obtain ⟨ι, as, z, pr, g, fr, q⟩ := h
  unfold gMin2 at g
  split at g
  · cases g
    obtain ⟨x, y, rfl, rx, ry⟩ := paired2 pr rfl
    exact call_min2 hc pins s σ H _ us Q I r ⟨_, _, by rw [rn_int rx, rn_int ry], q _ _ (.refl _) rep_int⟩
  · cases g
/-! ### all, any -/
def bools : List P → Option (List Bool)
  | [] => some []
  | .bl b :: xs => (bools xs).map (b :: ·)
  | _ => none
theorem bools_rep {G : Gx} {H : Hp} {ι : Io} : ∀ {xs : List P} {bs : List Bool} {vs : List V}, bools xs = some bs → RepL G H ι xs vs → vs = bs.map V.bl
  | [], bs, vs, h, r => by cases h; simp only [RepL] at r; exact r
  | x :: xs, bs, vs, h, r => by
    cases x with
    | bl b =>
      obtain ⟨cs, h1, h2⟩ := Option.map_eq_some_iff.mp h
      subst h2
      simp only [RepL] at r
      obtain ⟨v, t, e, r1, r2⟩ := r
      simp only [Rep] at r1
      rw [e, r1, bools_rep h1 r2]
      rfl
    | _ => cases h
def gAll : List P → Option P
  | [.lst xs] => (bools xs).map fun bs => .bl (bs.all id)
  | _ => none
def gAny : List P → Option P
  | [.lst xs] => (bools xs).map fun bs => .bl (bs.any id)
  | _ => none
theorem c_all (hc : X.calm = true) : CallR X (.builtin "all") (rPL X gAll) := by
  intro pins s σ H xs us Q I r h
  obtain ⟨ι, as, z, pr, g, fr, q⟩ := h
  unfold gAll at g
  split at g
  · obtain ⟨bs, h1, h2⟩ := Option.map_eq_some_iff.mp g
    subst h2
    obtain ⟨x, rfl, rx⟩ := paired1 pr rfl
    obtain ⟨a, vs, rfl, t, rl⟩ := rn_lst rx
    rw [bools_rep h1 rl] at t
    exact cr_all hc pins s σ H _ us Q I r ⟨a, bs, rfl, .inl t, q _ _ (.refl _) rep_bl⟩
  · cases g
theorem c_any (hc : X.calm = true) : CallR X (.builtin "any") (rPL X gAny) := by
  intro pins s σ H xs us Q I r h
  obtain ⟨ι, as, z, pr, g, fr, q⟩ := h
  unfold gAny at g
  split at g
  · obtain ⟨bs, h1, h2⟩ := Option.map_eq_some_iff.mp g
    subst h2
    obtain ⟨x, rfl, rx⟩ := paired1 pr rfl
    obtain ⟨a, vs, rfl, t, rl⟩ := rn_lst rx
    rw [bools_rep h1 rl] at t
    exact cr_any hc pins s σ H _ us Q I r ⟨a, bs, rfl, .inl t, q _ _ (.refl _) rep_bl⟩
  · cases g
/-! ### tuple(x) -/
def gTuple : List P → Option P
  | [.lst xs] => some (.tup xs)
  | [.tup xs] => some (.tup xs)
  | _ => none
theorem c_tuple : CallR X (.type "tuple") (rPL X gTuple) := by
  intro pins s σ H xs us Q I r h
  obtain ⟨ι, as, z, pr, g, fr, q⟩ := h
  unfold gTuple at g
  split at g
  · cases g
    obtain ⟨x, rfl, rx⟩ := paired1 pr rfl
    obtain ⟨a, vs, rfl, t, rl⟩ := rn_lst rx
    exact call_tuple_of pins s σ H _ us Q I r ⟨a, vs, rfl, .inl ⟨.inl t, fun l hl => q _ _ (Same.upd hl) (rep_tup hl (fr l hl) rl)⟩⟩
  · cases g
    obtain ⟨x, rfl, rx⟩ := paired1 pr rfl
    obtain ⟨a, vs, rfl, t, rl⟩ := rn_tup rx
    exact call_tuple_of pins s σ H _ us Q I r ⟨a, vs, rfl, .inr ⟨t.sq, q _ _ (.refl _) (rep_tup0 t rl)⟩⟩
  · cases g
/-! ### list(x) -/
def gList : List P → Option (List P)
  | [.lst xs] => some xs
  | [.tup xs] => some xs
  | [.dT ks _] => some ks
  | _ => none
theorem vals_refs : ∀ ys : List (NestedKey × Addr × Value), Vals (ys.map fun y => V.ref y.2.1) (ys.map fun y => Value.ref y.2.1)
  | [] => .nil
  | y :: ys => .cons rfl (vals_refs ys)
theorem c_list (hc : X.calm = true) : CallR X (.type "list") (rNL X gList) := by
  intro pins s σ H xs us Q I r h
  obtain ⟨ι, as, z, pr, g, fr, q⟩ := h
  unfold gList at g
  split at g
  · cases g
    obtain ⟨x, rfl, rx⟩ := paired1 pr rfl
    obtain ⟨a, vs, rfl, t, rl⟩ := rn_lst rx
    exact call_list_of pins s σ H _ us Q I r ⟨a, vs, rfl, .inl (.inl t), fun l hl => q l vs hl rl⟩
  · cases g
    obtain ⟨x, rfl, rx⟩ := paired1 pr rfl
    obtain ⟨a, vs, rfl, t, rl⟩ := rn_tup rx
    exact call_list_of pins s σ H _ us Q I r ⟨a, vs, rfl, .inr t.sq, fun l hl => q l vs hl rl⟩
  · rename_i ks ws
    cases g
    obtain ⟨x, rfl, rx⟩ := paired1 pr rfl
    obtain ⟨a, o, ys, vs, rfl, t, tb, e1, e2, r1, _⟩ := rn_tabD rx
    rw [Vals.ref1 r]
    have ok : ObjOk X.prog X.w H s.heap a (ExactO a o) := t.ok I.hok
    obtain ⟨es, ep, hd, he⟩ := tb.dat
    have raw : s.heap.DictRaw a es ep := ⟨o, ok.1, tb.ex, hd⟩
    have hsz : es.size = ys.length := by rw [← Array.length_toList, he, List.length_map]
    have hn : es.size ≤ sizeLine := by rw [hsz]; exact tb.len
    refine PySem.W.kdl_call (KdlSrc.rawDict (prog := X.prog) (w := X.w) tb.sys) (I.ok.hd hc) raw hn fun h' tk acc' c' hk hD hacc => ?_
    have hv : Vals (ys.map fun y => V.ref y.2.1) acc'.toList := by
      have hl : acc'.toList.length = ys.length := by rw [Array.length_toList, hacc.1, hsz]
      have ha : acc'.toList = ys.map fun y => Value.ref y.2.1 := by
        refine List.ext_getElem? fun i => ?_
        by_cases hi : i < ys.length
        · have h1 : acc'.toList[i]? = some acc'.toList[i] := List.getElem?_eq_getElem (by rw [hl]; exact hi)
          obtain ⟨hi2, h2⟩ := hacc.2 i acc'.toList[i] (by rw [← Array.getElem?_toList]; exact h1)
          have h3 : es[i].key = Value.ref ys[i].2.1 := by
            have h4 : es.toList[i]? = some es[i] := by rw [Array.getElem?_toList]; exact Array.getElem?_eq_getElem hi2
            rw [he, List.getElem?_map, List.getElem?_eq_getElem hi] at h4
            have h5 := Option.some.inj h4
            rw [← h5]; rfl
          rw [h1, List.getElem?_map, List.getElem?_eq_getElem hi, h2, h3]; rfl
        · rw [List.getElem?_eq_none (by rw [hl]; omega), List.getElem?_eq_none (by rw [List.length_map]; omega)]
      rw [ha]
      exact vals_refs ys
    have hl2 : (ys.map fun y => V.ref y.2.1).length ≤ sizeLine := by rw [List.length_map]; exact tb.len
    exact ⟨.ref s.heap.objs.size, _, I.laid (t' := tk) hk (Nat.le_refl _) (show ObjOk X.prog X.w _ h' _ (.lst _) from ⟨hl2, acc'.toList, c', hv, by simpa using hD⟩), rfl, q _ _ (I.hok.fresh (Nat.le_refl _)) r1⟩
  · cases g
/-! ### sorted(list) -/
def alikeL (xs : List P) : Bool := xs.all fun a => xs.all fun b => PySem.W.alike a.py b.py
def P.rows : P → Bool
  | .tup (_ :: _) => true
  | _ => false
def P.item : P → Bool
  | .bl _ => true
  | .int _ => true
  | .str _ => true
  | .lst _ => true
  | _ => false
/-- the order of sorted -/
def P.le (a b : P) : Bool := PySem.W.dataLe false P.py a b
def gSorted : List P → Option (List P)
  | [.lst xs] => if P.plainL xs = true ∧ alikeL xs = true ∧ (xs.all P.rows = true ∨ xs.all P.item = true) ∧ (xs.all fun x => decide (x.dep ≤ 100)) = true then some (xs.mergeSort P.le) else none
  | _ => none
theorem each_rep {G : Gx} {H : Hp} {ι : Io} : ∀ {xs : List P} {vs : List V} {us : List Value}, RepL G H ι xs vs → Vals vs us → PySem.W.EachIs (fun u x => ∃ v, RelV v u ∧ Rep G H ι x v) us xs
  | [], vs, us, r, w => by simp only [RepL] at r; subst r; cases w; exact .nil
  | x :: xs, vs, us, r, w => by
    simp only [RepL] at r
    obtain ⟨v, t, e, r1, r2⟩ := r
    subst e
    cases w with
    | cons w1 w2 => exact .cons ⟨v, w1, r1⟩ (each_rep r2 w2)
theorem rep_each {G : Gx} {H : Hp} {ι : Io} : ∀ {xs : List P} {us : List Value}, PySem.W.EachIs (fun u x => ∃ v, RelV v u ∧ Rep G H ι x v) us xs → ∃ vs, Vals vs us ∧ RepL G H ι xs vs
  | _, _, .nil => ⟨[], .nil, .nil⟩
  | _, _, .cons ⟨v, w, r⟩ t => let ⟨vs, h1, h2⟩ := rep_each t; ⟨v :: vs, .cons w h1, .cons r h2⟩
theorem each_mem {α β : Type} {R S : α → β → Prop} : ∀ {as : List α} {bs : List β}, PySem.W.EachIs R as bs → (∀ a b, b ∈ bs → R a b → S a b) → PySem.W.EachIs S as bs
  | _, _, .nil, _ => .nil
  | _, _, .cons r t, h => .cons (h _ _ List.mem_cons_self r) (each_mem t fun a b m => h a b (List.mem_cons_of_mem _ m))
theorem c_sorted (hu : X.A.units + 110 < cLine) : CallR X (.builtin "sorted") (rNL X gSorted) := by
  intro pins s σ H xs us Q I r h
  obtain ⟨ι, as, z, pr, g, fr, q⟩ := h
  unfold gSorted at g
  split at g
  · rename_i ys
    split at g
    · rename_i hc
      cases g
      obtain ⟨h1, h2, h3, h4⟩ := hc
      obtain ⟨x, rfl, rx⟩ := paired1 pr rfl
      obtain ⟨a, vs, rfl, t, rl⟩ := rn_lst rx
      obtain ⟨its, w, hl, hz⟩ := I.list (.inl t)
      rw [Vals.ref1 r]
      rw [P.plainL_eq] at h1
      rw [List.all_eq_true] at h1
      have hal : PySem.W.AllAlike (ys.map P.py) := fun d hd d' hd' => by
        obtain ⟨y, hy, rfl⟩ := List.mem_map.mp hd
        obtain ⟨y', hy', rfl⟩ := List.mem_map.mp hd'
        unfold alikeL at h2
        rw [List.all_eq_true] at h2
        have := h2 y hy
        rw [List.all_eq_true] at this
        exact this y' hy'
      have hso : PySem.W.Sortable (ys.map P.py) := by
        rcases h3 with h3 | h3
        · refine .inl fun d hd => ?_
          obtain ⟨y, hy, rfl⟩ := List.mem_map.mp hd
          have := List.all_eq_true.mp h3 y hy
          cases y with
          | tup zs =>
            cases zs with
            | nil => cases this
            | cons z zs => exact ⟨z.py, P.pyL zs, by rw [P.py, P.pyL]⟩
          | _ => cases this
        · refine .inr fun d hd => ?_
          obtain ⟨y, hy, rfl⟩ := List.mem_map.mp hd
          have := List.all_eq_true.mp h3 y hy
          cases y with
          | bl b => exact ⟨by simp [P.py], fun xs => by simp [P.py]⟩
          | int b => exact ⟨by simp [P.py], fun xs => by simp [P.py]⟩
          | str b => exact ⟨by simp [P.py], fun xs => by simp [P.py]⟩
          | lst b => exact ⟨by simp [P.py], fun xs => by simp [P.py]⟩
          | _ => cases this
      have er := each_rep rl w
      have hlen : ys.length ≤ sizeLine := by rw [rl.length]; exact hz
      refine PySem.W.sorted_data (enc := P.py) (R := fun u x => ∃ v, RelV v u ∧ Rep (gx X) H ι x v) hl.isList er (each_mem er fun u y hy ⟨v, w, ry⟩ => Rn.reads I (h1 y hy) (Rep.rn ry) w) hal hso hlen (fun b hb => ?_) fun out ho eo => ?_
      · have := List.all_eq_true.mp h4 b hb
        rw [P.dep_py]
        have := of_decide_eq_true this
        omega
      · obtain ⟨ep, he'⟩ := PyProof.Rows.sortedAll_at s.heap its out.toArray
        obtain ⟨vs', w', r'⟩ := rep_each eo
        have hl' : vs'.length ≤ sizeLine := by rw [w'.length, ho]; exact hlen
        exact ⟨.ref (s.heap.objs.size + 1), _, I.laid (t' := s.toks) (fun _ _ => PyProof.Rows.sortedAll_old) (Nat.le_succ _) (show ObjOk X.prog X.w _ _ _ (.lst vs') from ⟨hl', out, ep, w', by simpa using he'⟩), rfl, q _ _ (I.hok.fresh (Nat.le_succ _)) r'⟩
    · cases g
  · cases g
end
end DL

set_option Elab.async false
set_option linter.all false
set_option maxRecDepth 100000
/-! The data layer, part m: isinstance, repr, methods of lists. -/
namespace DL
open PySem PySem.Spec PyProof.Rows L2

/-! ### isinstance(x, T) -/
def P.tyN : P → Option String
  | .non => some "NoneType"
  | .bl _ => some "bool"
  | .int _ => some "int"
  | .str _ => some "str"
  | .tup _ => some "tuple"
  | .lst _ => some "list"
  | .dK _ _ => some "dict"
  | .dT _ _ => some "dict"
  | _ => none
def isInt : P → Option Bool
  | .obj _ _ _ => none
  | .exc _ _ _ => none
  | .int _ => some true
  | .bl _ => some true
  | _ => some false
def isBool : P → Option Bool
  | .obj _ _ _ => none
  | .exc _ _ _ => none
  | .bl _ => some true
  | _ => some false
def isText : P → Option Bool
  | .obj _ _ _ => none
  | .exc _ _ _ => none
  | .str _ => some true
  | _ => some false
def isTup : P → Option Bool
  | .obj _ _ _ => none
  | .exc _ _ _ => none
  | .tup _ => some true
  | _ => some false
def isLst : P → Option Bool
  | .obj _ _ _ => none
  | .exc _ _ _ => none
  | .lst _ => some true
  | _ => some false
def isDct : P → Option Bool
  | .obj _ _ _ => none
  | .exc _ _ _ => none
  | .dK _ _ => some true
  | .dT _ _ => some true
  | _ => some false
/-- f tells whether something is of the type T -/
def Tells (T : String) (f : P → Option Bool) : Prop := ∀ x b, f x = some b → ∃ t, x.tyN = some t ∧ kitB t T = some b
theorem tells_int : Tells "int" isInt := fun x b h => by cases x <;> first | (cases h; done) | (cases h; exact ⟨_, rfl, by decide +kernel⟩)
theorem tells_bool : Tells "bool" isBool := fun x b h => by cases x <;> first | (cases h; done) | (cases h; exact ⟨_, rfl, by decide +kernel⟩)
theorem tells_str : Tells "str" isText := fun x b h => by cases x <;> first | (cases h; done) | (cases h; exact ⟨_, rfl, by decide +kernel⟩)
theorem tells_tuple : Tells "tuple" isTup := fun x b h => by cases x <;> first | (cases h; done) | (cases h; exact ⟨_, rfl, by decide +kernel⟩)
theorem tells_list : Tells "list" isLst := fun x b h => by cases x <;> first | (cases h; done) | (cases h; exact ⟨_, rfl, by decide +kernel⟩)
theorem tells_dict : Tells "dict" isDct := fun x b h => by cases x <;> first | (cases h; done) | (cases h; exact ⟨_, rfl, by decide +kernel⟩)
section
variable {X : Cx} {W : WX} {e e2 : Expr} {es : List Expr} {fa : FE} {fr : FA} {p p2 pos : Pos} {T : String}
theorem kit_rn {pins : List (Addr × Obj)} {σ : L2.St} {H : Hp} {s : Shared} {ι : Io} {a : P} {x : V} {u : Value} {t : String} (I : Inv X pins σ H s) (rx : RelV x u) (r : Rn (gx X) H ι a x) (ht : a.tyN = some t) : ∃ P : Heap → Prop, PySem.W.KitX X.K u (.type t) P ∧ P s.heap ∧ u ≠ .builtin "__main__.__loader__#opaque" := by
  cases a with
  | non => cases ht; rw [rn_non r] at rx; cases (show u = Value.none from rx); exact ⟨_, PySem.W.kitx_none, True.intro, fun z => nomatch z⟩
  | bl b => cases ht; rw [rn_bl r] at rx; cases (show u = Value.bool b from rx); exact ⟨_, PySem.W.kitx_bool, True.intro, fun z => nomatch z⟩
  | int b => cases ht; rw [rn_int r] at rx; obtain ⟨t, q⟩ := (show ∃ t, u = Value.int b t from rx); cases q; exact ⟨_, PySem.W.kitx_int, True.intro, fun z => nomatch z⟩
  | str b => cases ht; rw [rn_str r] at rx; obtain ⟨t, q⟩ := (show ∃ t, u = Value.str b t from rx); cases q; exact ⟨_, PySem.W.kitx_str, True.intro, fun z => nomatch z⟩
  | tup b =>
    cases ht
    obtain ⟨p, vs, e, t, _⟩ := rn_tup r
    subst e
    cases (show u = Value.ref p from rx)
    obtain ⟨its, _, ⟨o, h1, h2, _⟩, _⟩ := I.tuple t.sq
    exact ⟨_, PySem.W.kitx_tuple, ⟨o, h1, h2⟩, fun z => nomatch z⟩
  | lst b =>
    cases ht
    obtain ⟨p, vs, e, t, _⟩ := rn_lst r
    subst e
    cases (show u = Value.ref p from rx)
    obtain ⟨_, its, n, _, h1⟩ := lst_rd I t
    exact ⟨_, PySem.W.kitx_list, ⟨_, h1, rfl⟩, fun z => nomatch z⟩
  | dK ks b =>
    cases ht
    obtain ⟨p, vs, e, t, _⟩ := rn_dK r
    subst e
    cases (show u = Value.ref p from rx)
    obtain ⟨_, hd, vs, _, dd⟩ := dk_rd I.hok t
    obtain ⟨ob, _, _, h1, h2, _⟩ := dd
    exact ⟨_, PySem.W.kitx_dict, ⟨ob, h1, h2.1⟩, fun z => nomatch z⟩
  | dT ks b =>
    cases ht
    obtain ⟨p, o, ys, vs, e, t, tb, _⟩ := rn_tabD r
    subst e
    cases (show u = Value.ref p from rx)
    have ok : ObjOk X.prog X.w H s.heap p (ExactO p o) := t.ok I.hok
    exact ⟨_, PySem.W.kitx_dict, ⟨o, ok.1, tb.ex.1⟩, fun z => nomatch z⟩
  | obj C ns b => cases ht
  | exc C ns b => cases ht
/-- .. of a value and a type -/
def rIsP (X : Cx) (T : String) (f : P → Option Bool) : List V → Hp → VK → Prop := fun xs H Q => ∃ ι a x b, xs = [x, .ty T] ∧ Rn (gx X) H ι a x ∧ f a = some b ∧ Q (.bl b) H
theorem call_isP {f : P → Option Bool} (ht : Tells T f) : CallR X (.builtin "isinstance") (rIsP X T f) := by
  intro pins s σ H xs us Q I r h
  obtain ⟨ι, a, x, b, rfl, rx, hf, q⟩ := h
  obtain ⟨u1, u2, rfl, r1, r2⟩ := vals2 r
  cases r2
  obtain ⟨t, h1, h2⟩ := ht a b hf
  obtain ⟨P, Z, p, hx⟩ := kit_rn I r1 rx h1
  exact PySem.W.kia_one Z I.kIn p (kit_ty h2) hx fun tk => ⟨.bl b, H, I.tok tk, rfl, q⟩
def isD (f : P → Option Bool) (d : D) (m : Mem) : ER D := match (view d m).bind f with
  | some b => .ok (.p (.bl b)) m
  | none => .bad
def sIs (f : P → Option Bool) (fa : FE) : FE := fun δ m => (fa δ m).bind fun d m => isD f d m
theorem de_is {f : P → Option Bool} {T' : Str} (ht : Tells T f) (hm : X.mg "isinstance" = none) (hm2 : X.mg T' = none) (hv2 : bootBuiltins T' = some (.type T)) (ha : DE X W e fa) (hg : Gl X "isinstance" := by rfl) (hg2 : Gl X T' := by rfl) (hn : T' ≠ "__name__" := by decide) (hdb : (T' == ("__debug__" : Str)) = false := by decide)
    (he : starEach [e, .Name T' p2] X.env = (false, eval e X.env) :: starEach [.Name T' p2] X.env := by rfl) (he2 : starEach [.Name T' p2] X.env = (false, eval (.Name T' p2) X.env) :: starEach [] X.env := by rfl) (hpl : (backTo pos (starEach [.Name T' p2] X.env)).any (·.1) = false := by rfl) :
    DE X W (.Call (.Name "isinstance" p) [e, .Name T' p2] [] pos) (sIs f fa) :=
  (pe_callB (call_isP ht) hg hm (show bootBuiltins "isinstance" = some (.builtin "isinstance") from PyProof.Rows.boot_isinstance) (pa_cons ha (pa_cons (pe_bltn (v := .ty T) hg2 hm2 hv2 rfl hn hdb) pa_nil he2) he) (by decide) (by decide) he hpl).conv fun σ H Q ⟨δ, m, ι, S, M, h⟩ =>
    ⟨δ, m, ι, S, M, h.seq fun d m1 v H1 ι1 _ s1 M1 r1 h1 => by
      show rIsP X T f [v, .ty T] H1 Q
      unfold isD at h1
      cases q : (view d m1).bind f with
      | none => rw [q] at h1; exact h1.elim
      | some b =>
        rw [q] at h1
        obtain ⟨a, hx, hz⟩ := Option.bind_eq_some_iff.mp q
        exact ⟨ι1, a, v, b, rfl, rn_view M1 r1 hx, hz, ERP.fin M1 h1 _ _ (.refl _) rep_bl⟩⟩

/-! ### repr -/
/-- it may be shown -/
def P.shows (x : P) : Bool := x.plain && decide (x.dep ≤ 100) && x.py.showable && decide (x.py.shown.length ≤ 16777216)
def gRepr : List P → Option P
  | [.tup xs] => if (P.tup xs).shows = true then some (.str (P.tup xs).py.shown) else none
  | [.lst xs] => if (P.lst xs).shows = true then some (.str (P.lst xs).py.shown) else none
  | _ => none
mutual
theorem P.noDict : ∀ x : P, x.py.hasDict = false
  | .non => by simp [P.py, PyData.hasDict]
  | .bl _ => by simp [P.py, PyData.hasDict]
  | .int _ => by simp [P.py, PyData.hasDict]
  | .str _ => by simp [P.py, PyData.hasDict]
  | .tup xs => by simp only [P.py, PyData.hasDict]; exact P.noDictL xs
  | .lst xs => by simp only [P.py, PyData.hasDict]; exact P.noDictL xs
  | .dK _ _ => by simp [P.py, PyData.hasDict]
  | .dT _ _ => by simp [P.py, PyData.hasDict]
  | .obj _ _ _ => by simp [P.py, PyData.hasDict]
  | .exc _ _ _ => by simp [P.py, PyData.hasDict]
theorem P.noDictL : ∀ xs : List P, PyData.hasDictAll (P.pyL xs) = false
  | [] => by simp [P.pyL, PyData.hasDictAll]
  | x :: xs => by simp only [P.pyL, PyData.hasDictAll, P.noDict x, P.noDictL xs, Bool.or_self]
end
theorem c_repr (hu : X.A.units + 110 < cLine) (hgd : X.A.guards = some []) : CallR X (.builtin "repr") (rPL X gRepr) := by
  intro pins s σ H xs us Q I r h
  obtain ⟨ι, as, z, pr, g, fr, q⟩ := h
  have key : ∀ (a : P) (x : V), (∃ p, x = .ref p) → Rn (gx X) H ι a x → a.shows = true → xs = [x] → (∀ v H', Same H H' → Rep (gx X) H' ι (.str a.py.shown) v → Q v H') → wpAny (model X.prog X.w) X.A (call (.builtin "repr") us) (EP X pins σ Q) X.xe s := by
    rintro a x ⟨p, rfl⟩ rx sh rfl q
    unfold P.shows at sh
    simp only [Bool.and_eq_true, decide_eq_true_eq] at sh
    obtain ⟨⟨⟨h1, h2⟩, h3⟩, h4⟩ := sh
    rw [Vals.ref1 r]
    obtain ⟨as, rd⟩ := Rn.reads I h1 rx (show RelV (.ref p) (.ref p) from rfl)
    exact repr_of_reads' rd h3 (fun z => by rw [P.noDict] at z; cases z) hgd (by rw [P.dep_py]; omega) (fun _ _ e => e) (fun h' u tk hk => ⟨.str _, H, I.kept hk, ⟨_, rfl⟩, q _ _ (.refl _) rep_str⟩) (by rw [sizeLine_eq]; exact h4)
  unfold gRepr at g
  split at g
  · split at g
    · rename_i sh
      cases g
      obtain ⟨x, ex, rx⟩ := paired1 pr rfl
      obtain ⟨p, _, ep, _⟩ := rn_tup rx
      exact key _ x ⟨p, ep⟩ rx sh ex q
    · cases g
  · split at g
    · rename_i sh
      cases g
      obtain ⟨x, ex, rx⟩ := paired1 pr rfl
      obtain ⟨p, _, ep, _⟩ := rn_lst rx
      exact key _ x ⟨p, ep⟩ rx sh ex q
    · cases g
  · cases g
end

/-! ### methods that write to a list -/
/-- what a method answers and leaves -/
def rMt (X : Cx) (f : D → List D → Mem → Option (P × Mem)) : V → List V → Hp → VK → Prop := fun x xs H Q => ∃ ι m d ds z m', MRel (gx X) H ι m ∧ RepD (gx X) H ι d x ∧ RepDL (gx X) H ι ds xs ∧ f d ds m = some (z, m') ∧ ∀ v H' ι', Step ι H ι' H' → MRel (gx X) H' ι' m' → Rep (gx X) H' ι' z v → Q v H'
def onLst (f : List P → List P → Option (P × List P)) (d : D) (ds : List D) (m : Mem) : Option (P × Mem) := match d with
  | .ref i => (match m[i]?, allP ds with
    | some (some (.lst xs)), some ys => (f xs ys).map fun r => (r.1, m.set i (some (.lst r.2)))
    | _, _ => none)
  | _ => none
def fAppend (xs ys : List P) : Option (P × List P) := match ys with
  | [y] => if xs.length < 16777216 then some (.non, xs ++ [y]) else none
  | _ => none
def fPop0 (xs ys : List P) : Option (P × List P) := match ys with
  | [] => (xs[xs.length - 1]?).map fun y => (y, xs.dropLast)
  | _ => none
def fPop1 (xs ys : List P) : Option (P × List P) := match ys with
  | [.int i] => if -(2 ^ 63) ≤ i ∧ i < 2 ^ 63 then (ixN xs.length i).bind fun k => (xs[k]?).map fun y => (y, xs.eraseIdx k) else none
  | _ => none
/-- the list is written on by what another tells -/
def onExt (d : D) (ds : List D) (m : Mem) : Option (P × Mem) := match d, ds with
  | .ref i, [e] => (match m[i]?, view e m with
    | some (some (.lst xs)), some (.lst zs) => if xs.length + zs.length ≤ 16777216 then some (.non, m.set i (some (.lst (xs ++ zs)))) else none
    | _, _ => none)
  | _, _ => none
theorem RepL.dropLast {G : Gx} {H : Hp} {ι : Io} {xs : List P} {vs : List V} (r : RepL G H ι xs vs) : RepL G H ι xs.dropLast vs.dropLast := by
  rw [List.dropLast_eq_take, List.dropLast_eq_take, r.length]
  exact r.take _
section
variable {X : Cx} {W : WX} {o e : Expr} {es : List Expr} {fo : FE} {fr : FA} {apos cpos : Pos}
theorem lst_put {G : Gx} {ι : Io} {H : Hp} {m : Mem} {i : Nat} {a : Addr} {vs us : List V} {ys : List P} (M : MRel G H ι m) (hi : ι.at_[i]? = some (some a)) (hH : H a = some (.lst vs)) (r : RepL G H ι ys us) : Step ι H ι (upd H a (.lst us)) ∧ MRel G (upd H a (.lst us)) ι (m.set i (some (.lst ys))) := by
  have st : Step ι H ι (upd H a (.lst us)) := .put hi hH (fun ps z => by cases z)
  exact ⟨st, M.put hi hH (fun ps z => by cases z) ⟨_, upd_same, RepL.step st _ _ r⟩⟩
theorem on_lst {f : List P → List P → Option (P × List P)} {ι : Io} {H : Hp} {m m' : Mem} {d : D} {ds : List D} {z : P} {x : V} {xs : List V} (M : MRel (gx X) H ι m) (rd : RepD (gx X) H ι d x) (rs : RepDL (gx X) H ι ds xs) (hf : onLst f d ds m = some (z, m')) :
    ∃ i a vs ys as w, x = .ref a ∧ ι.at_[i]? = some (some a) ∧ H a = some (.lst vs) ∧ RepL (gx X) H ι ys vs ∧ RepL (gx X) H ι as xs ∧ f ys as = some (z, w) ∧ m' = m.set i (some (.lst w)) := by
  unfold onLst at hf
  split at hf
  · rename_i i
    split at hf
    · rename_i ys as hm hv
      obtain ⟨w, e1, e2⟩ := Option.map_eq_some_iff.mp hf
      obtain ⟨a, ea, qa⟩ := rd
      obtain ⟨hi, vs, hH, r⟩ := M.live hm qa
      obtain ⟨w1, w2⟩ := w
      cases e2
      exact ⟨i, a, vs, ys, as, w2, ea, hi, hH, r, allP_rep hv rs, e1, rfl⟩
    · cases hf
  · cases hf
theorem m_append : MtR X "list.append" (rMt X (onLst fAppend)) := by
  intro pins s σ H x xs v us Q I rx rv h
  obtain ⟨ι, m, d, ds, z, m', M, rd, rs, hf, q⟩ := h
  obtain ⟨i, a, vs, ys, as, w, ex, hi, hH, r, ra, e1, em⟩ := on_lst M rd rs hf
  unfold fAppend at e1
  split at e1
  · split at e1
    · rename_i hl
      cases e1
      simp only [RepL] at ra
      obtain ⟨x1, t, ea, ry, et⟩ := ra
      subst et ea ex em
      obtain ⟨st, M'⟩ := lst_put M hi hH (r.append (.one ry))
      exact mt_append pins s σ H _ _ v us Q I rx rv ⟨a, vs, x1, rfl, rfl, hH, by rw [sizeLine_eq, ← r.length]; exact hl, q _ _ _ st M' rep_non⟩
    · cases e1
  · cases e1
theorem m_pop0 : MtR X "list.pop" (rMt X (onLst fPop0)) := by
  intro pins s σ H x xs v us Q I rx rv h
  obtain ⟨ι, m, d, ds, z, m', M, rd, rs, hf, q⟩ := h
  obtain ⟨i, a, vs, ys, as, w, ex, hi, hH, r, ra, e1, em⟩ := on_lst M rd rs hf
  unfold fPop0 at e1
  split at e1
  · obtain ⟨y, hy, e2⟩ := Option.map_eq_some_iff.mp e1
    cases e2
    simp only [RepL] at ra
    subst ra ex em
    obtain ⟨st, M'⟩ := lst_put M hi hH r.dropLast
    obtain ⟨u, hu, ru⟩ := r.get hy
    exact mt_pop pins s σ H _ _ v us Q I rx rv ⟨a, vs, u, rfl, rfl, hH, by rw [← r.length]; exact hu, q _ _ _ st M' (Rep.step st _ _ ru)⟩
  · cases e1
theorem m_pop1 : MtR X "list.pop" (rMt X (onLst fPop1)) := by
  intro pins s σ H x xs v us Q I rx rv h
  obtain ⟨ι, m, d, ds, z, m', M, rd, rs, hf, q⟩ := h
  obtain ⟨i, a, vs, ys, as, w, ex, hi, hH, r, ra, e1, em⟩ := on_lst M rd rs hf
  unfold fPop1 at e1
  split at e1
  · rename_i j
    split at e1
    · rename_i hj
      obtain ⟨k, hk, e2⟩ := Option.bind_eq_some_iff.mp e1
      obtain ⟨y, hy, e3⟩ := Option.map_eq_some_iff.mp e2
      cases e3
      simp only [RepL, Rep] at ra
      obtain ⟨x1, t, ea, ry, et⟩ := ra
      subst ry et ea ex em
      obtain ⟨st, M'⟩ := lst_put M hi hH (r.eraseIdx k)
      obtain ⟨u, hu, ru⟩ := r.get hy
      exact mt_popAt pins s σ H _ _ v us Q I rx rv ⟨a, vs, j, k, u, rfl, rfl, hH, hj.1, hj.2, by rw [← r.length]; exact (ixN_seq hk).1, hu, q _ _ _ st M' (Rep.step st _ _ ru)⟩
    · cases e1
  · cases e1
theorem m_extend : MtR X "list.extend" (rMt X onExt) := by
  intro pins s σ H x xs v us Q I rx rv h
  obtain ⟨ι, m, d, ds, z, m', M, rd, rs, hf, q⟩ := h
  unfold onExt at hf
  split at hf
  · rename_i i e
    split at hf
    · rename_i ys zs hm hv
      split at hf
      · rename_i hl
        cases hf
        obtain ⟨a, ea, qa⟩ := rd
        obtain ⟨hi, vs, hH, r⟩ := M.live hm qa
        obtain ⟨x1, ex1, r1⟩ := rs.one
        obtain ⟨b, ws, eb, hb, rb⟩ := rn_lst (rn_view M r1 hv)
        subst ea ex1 eb
        cases rx
        obtain ⟨u, rfl, ru⟩ := Vals.one rv
        cases ru
        obtain ⟨_, its, n, w, hle, e⟩ := I.lstM hH
        obtain ⟨_, its2, n2, w2, e2⟩ := lst_rd I hb
        have hlen : its.length + its2.length ≤ 16777216 := by rw [← w.length, ← w2.length, ← r.length, ← rb.length]; exact hl
        have hs := sizeLine_eq
        have hsz : its.toArray.size + its2.toArray.size ≤ sizeLine := by rw [List.size_toArray, List.size_toArray]; omega
        have hlong : ¬ (!its.toArray.isEmpty && Builtin.List.listTooLong (its.toArray.size + its2.toArray.size)) = true := by
          rw [notLongL hsz, Bool.and_false]
          exact Bool.false_ne_true
        obtain ⟨st, M'⟩ := lst_put M hi hH (r.append rb)
        refine call_meets F.slot_list_extend ⟨_, e, rfl⟩ F.entry_list_extend (F.args_list_extend_2 _ _)
          (AutoSeq1.list_extend_list_list_0 a its.toArray n b its2.toArray n2 hlong (by rw [List.size_toArray]; omega) (by omega)) ⟨e, e2, ?_⟩
        refine ⟨.non, _, I.lset (its' := its ++ its2) hH e (by simp) (Vals.append w w2) ?_, rfl, q _ _ _ st M' rep_non⟩
        rw [List.length_append, ← r.length, ← rb.length]
        omega
      · cases hf
    · cases hf
  · cases hf
def sMt (f : D → List D → Mem → Option (P × Mem)) (fo : FE) (fr : FA) : FE := fun δ m => (fo δ m).bind fun d m1 => match view d m1 with
  | some (.lst _) => (fr δ m1).bind fun ds m2 => (match f d ds m2 with
    | some (z, m3) => .ok (.p z) m3
    | none => .bad)
  | _ => .bad
variable {name : Str} {id : String} {f : D → List D → Mem → Option (P × Mem)}
theorem mt_fin {σ : L2.St} {ι : Io} {H : Hp} {m : Mem} {Q : VK} {d : D} {ds : List D} {x : V} {xs : List V} (M : MRel (gx X) H ι m) (rd : RepD (gx X) H ι d x) (rs : RepDL (gx X) H ι ds xs)
    (h : ERP (gx X) W σ ι H (fun H ι => RepD (gx X) H ι) (match f d ds m with | some (z, m3) => .ok (.p z) m3 | none => .bad) Q) : rMt X f x xs H Q := by
  cases q : f d ds m with
  | none => rw [q] at h; exact h.elim
  | some r =>
    obtain ⟨z, m3⟩ := r
    rw [q] at h
    exact ⟨ι, m, d, ds, z, m3, M, rd, rs, q, fun v H' ι' s M' rz => h v H' ι' s M' rz⟩
theorem de_m1 (slot : Slot "list" name id) (hty : typeOf (.builtin id) = pure (.type "method_descriptor")) (hm : MtR X id (rMt X f)) (ho : DE X W o fo) (ha : DA X W (e :: es) fr)
    (hbase : attributeBase o name X.env (eval o X.env) = eval o X.env := by rfl)
    (hfew : ((backTo cpos (starEach (e :: es) X.env)).all (fun x => !x.1) && (backToKw cpos (keywordEach [] X.env)).all (fun x => x.1.isSome)
      && decide ((e :: es).length + ([] : List Keyword).length + (if ([] : List Keyword).isEmpty then 0 else 1) < 30)) = true := by rfl)
    (hline : (apos.endLine == cpos.line) = true := by rfl) (hs : starEach (e :: es) X.env = (false, eval e X.env) :: starEach es X.env := by rfl) (hplain : (backTo cpos (starEach es X.env)).any (·.1) = false := by rfl) :
    DE X W (.Call (.Attribute o name apos) (e :: es) [] cpos) (sMt f fo fr) :=
  (pe_bm PySem.F.plainAttrs_list slot hty hm ho ha hbase hfew hline hs hplain).conv fun σ H Q ⟨δ, m, ι, S, M, h⟩ => ⟨δ, m, ι, S, M, h.seq fun d m1 v H1 ι1 _ s1 M1 r1 h1 => by
    split at h1
    · rename_i ys hv
      obtain ⟨a, vs, ev, t, _⟩ := rn_lst (rn_view M1 r1 hv)
      refine ⟨by rw [ev]; exact .inl ⟨rfl, vs, .inl t⟩, δ, m1, ι1, S.step s1, M1, h1.seq fun ds m2 us H2 ι2 _ s2 M2 r2 h2 => mt_fin M2 (r1.step s2) r2 h2⟩
    · exact h1.elim⟩
theorem de_m0 (slot : Slot "list" name id) (hty : typeOf (.builtin id) = pure (.type "method_descriptor")) (hm : MtR X id (rMt X f)) (ho : DE X W o fo)
    (hbase : attributeBase o name X.env (eval o X.env) = eval o X.env := by rfl) (hline : (apos.endLine == cpos.line) = true := by rfl) :
    DE X W (.Call (.Attribute o name apos) [] [] cpos) (sMt f fo sNil) :=
  (pe_bm0 PySem.F.plainAttrs_list slot hty hm ho hbase hline).conv fun σ H Q ⟨δ, m, ι, S, M, h⟩ => ⟨δ, m, ι, S, M, h.seq fun d m1 v H1 ι1 _ s1 M1 r1 h1 => by
    split at h1
    · rename_i ys hv
      obtain ⟨a, vs, ev, t, _⟩ := rn_lst (rn_view M1 r1 hv)
      exact ⟨by rw [ev]; exact .inl ⟨rfl, vs, .inl t⟩, mt_fin (ds := []) (xs := []) M1 r1 rfl h1⟩
    · exact h1.elim⟩
end
end DL

set_option Elab.async false
set_option linter.all false
set_option maxRecDepth 100000
/-! The data layer, part n: functions. -/
namespace DL
open PySem PySem.Spec PyProof.Rows L2

/-! ### a call's end -/
/-- behind a body; n: as many objects were there at its start -/
def fin (n : Nat) (r : SR) : ER D := match r with
  | .rt (.p x) m => .ok (.p x) (m.take n)
  | .rt (.ref j) m => if j < n then .ok (.ref j) (m.take n) else (match m[j]? with
    | some (some o) => .ok (.ref n) (m.take n ++ [some o])
    | _ => .bad)
  | .nx _ m => .ok (.p .non) (m.take n)
  | .ex x _ m => .ex x (m.take n)
  | _ => .bad
/-- the names at a def's start -/
def starts (N : List Str) (ds : List D) : DS := ds ++ List.replicate (N.length - ds.length) .und
def fnS (N : List Str) (k : Nat) (fb : FS) : List D → Mem → ER D := fun ds m => if ds.length = k then fin m.length (fb (starts N ds) m) else .bad
section
variable {G : Gx} {H : Hp} {ι ι0 : Io} {H0 : Hp} {m : Mem} {n : Nat}
def Io.cut (ι : Io) (n : Nat) : Io := ⟨ι.at_.take n, ι.hid⟩
def Io.cut1 (ι : Io) (n : Nat) (a : Addr) : Io := ⟨ι.at_.take n ++ [some a], ι.hid⟩
theorem cut_mw : Mw ι H (ι.cut n) H := ⟨fun a u h _ => ⟨h.1, fun z => h.2.1 (List.mem_of_mem_take z), h.2.2⟩⟩
theorem cut1_mw {j : Nat} {a : Addr} (hj : ι.at_[j]? = some (some a)) : Mw ι H (ι.cut1 n a) H := ⟨fun b u h _ => ⟨h.1, fun z => by
  rcases List.mem_append.mp z with z | z
  · exact h.2.1 (List.mem_of_mem_take z)
  · have e : b = a := by simpa using z
    exact h.2.1 (by rw [e]; exact List.mem_of_getElem? hj), h.2.2⟩⟩
theorem cut_at {i : Nat} {o : Option Addr} (e : (ι.cut n).at_[i]? = some o) : i < n ∧ ι.at_[i]? = some o := by
  have e' : (ι.at_.take n)[i]? = some o := e
  rw [List.getElem?_take] at e'
  by_cases h : i < n
  · rw [if_pos h] at e'; exact ⟨h, e'⟩
  · rw [if_neg h] at e'; cases e'
theorem Step.cut (s : Step ι0 H0 ι H) (hn : n = ι0.at_.length) : Step ι0 H0 (ι.cut n) H where
  len := by
    show _ ≤ (ι.at_.take n).length
    rw [List.length_take, hn]
    have := s.len
    omega
  pre := fun i o e l => s.pre i o (cut_at e).2 l
  keep := s.keep
  new := fun b e n => s.new b (List.mem_of_mem_take e) n
  tbl := s.tbl
  hid := s.hid
theorem Step.cut1 (s : Step ι0 H0 ι H) (hn : n = ι0.at_.length) {j : Nat} {a : Addr} (hj : ι.at_[j]? = some (some a)) : Step ι0 H0 (ι.cut1 n a) H where
  len := by
    show _ ≤ (ι.at_.take n ++ [some a]).length
    rw [List.length_append, List.length_take, hn]
    have := s.len
    omega
  pre := fun i o e l => by
    have e' : (ι.at_.take n ++ [some a])[i]? = some o := e
    have := s.len
    rw [List.getElem?_append_left (by rw [List.length_take]; omega)] at e'
    exact s.pre i o (cut_at (ι := ι) (n := n) e').2 l
  keep := s.keep
  new := fun b e n => by
    rcases List.mem_append.mp e with e | e
    · exact s.new b (List.mem_of_mem_take e) n
    · have z : b = a := by simpa using e
      exact s.new b (by rw [z]; exact List.mem_of_getElem? hj) n
  tbl := s.tbl
  hid := s.hid
theorem MObj.mw {ι' : Io} {a : Addr} {o : MO} (s : Mw ι H ι' H) (h : MObj G H ι a o) : MObj G H ι' a o := by
  cases o with
  | lst xs => obtain ⟨vs, e, r⟩ := h; exact ⟨vs, e, RepL.mw s _ _ r⟩
  | dK ks xs => obtain ⟨vs, e, l, r⟩ := h; exact ⟨vs, e, l, RepL.mw s _ _ r⟩
  | dT ks xs => obtain ⟨o, ys, vs, e, t, e1, e2, r1, q, r2⟩ := h; exact ⟨o, ys, vs, e, t, e1, e2, RepL.mw s _ _ r1, q, RepL.mw s _ _ r2⟩
  | ins C ns ds => obtain ⟨dx, vs, e, l, r⟩ := h; exact ⟨dx, vs, e, l, RepL.mw s _ _ r⟩
theorem MRel.cut (M : MRel G H ι m) : MRel G H (ι.cut n) (m.take n) where
  len := by show (ι.at_.take n).length = _; rw [List.length_take, List.length_take, M.len]
  inj := fun i j a e1 e2 => M.inj i j a (cut_at e1).2 (cut_at e2).2
  obj := fun i a e => by
    obtain ⟨h, e⟩ := cut_at e
    obtain ⟨o, q, ob⟩ := M.obj i a e
    exact ⟨o, by rw [List.getElem?_take, if_pos h]; exact q, ob.mw cut_mw⟩
  gon := fun i e => by
    obtain ⟨h, e⟩ := cut_at e
    rw [List.getElem?_take, if_pos h]; exact M.gon i e
  hid := fun a e => let ⟨u, n⟩ := M.hid a e; ⟨u, fun z => n (List.mem_of_mem_take z)⟩
theorem MRel.cut1 (M : MRel G H ι m) {j : Nat} {a : Addr} {o : MO} (hn : n ≤ j) (hj : ι.at_[j]? = some (some a)) (ho : m[j]? = some (some o)) : MRel G H (ι.cut1 n a) (m.take n ++ [some o]) := by
  have hl : j < ι.at_.length := (List.getElem?_eq_some_iff.mp hj).1
  have hn' : n ≤ ι.at_.length := by omega
  have l1 : (ι.at_.take n).length = n := by rw [List.length_take]; omega
  have l2 : (m.take n).length = n := by rw [List.length_take, ← M.len]; omega
  have at1 : ∀ {i : Nat} {q : Option Addr}, (ι.cut1 n a).at_[i]? = some q → (i < n ∧ ι.at_[i]? = some q) ∨ (i = n ∧ q = some a) := fun {i q} e => by
    have e' : (ι.at_.take n ++ [some a])[i]? = some q := e
    by_cases hi : i < n
    · rw [List.getElem?_append_left (by rw [l1]; exact hi), List.getElem?_take, if_pos hi] at e'
      exact .inl ⟨hi, e'⟩
    · rw [List.getElem?_append_right (by rw [l1]; omega), l1] at e'
      cases z : i - n with
      | zero => rw [z] at e'; simp at e'; exact .inr ⟨by omega, e'.symm⟩
      | succ k => rw [z] at e'; simp at e'
  refine ⟨?_, fun i k b e1 e2 => ?_, fun i b e => ?_, fun i e => ?_, fun b e => ?_⟩
  · show (ι.at_.take n ++ [some a]).length = _
    rw [List.length_append, List.length_append, l1, l2]; rfl
  · rcases at1 e1 with ⟨h1, q1⟩ | ⟨h1, q1⟩
    · rcases at1 e2 with ⟨h2, q2⟩ | ⟨h2, q2⟩
      · exact M.inj i k b q1 q2
      · cases q2
        have := M.inj i j a q1 hj
        omega
    · rcases at1 e2 with ⟨h2, q2⟩ | ⟨h2, q2⟩
      · cases q1
        have := M.inj k j a q2 hj
        omega
      · omega
  · rcases at1 e with ⟨h1, q1⟩ | ⟨h1, q1⟩
    · obtain ⟨o', q, ob⟩ := M.obj i b q1
      exact ⟨o', by rw [List.getElem?_append_left (by rw [l2]; exact h1), List.getElem?_take, if_pos h1]; exact q, ob.mw (cut1_mw hj)⟩
    · cases q1
      obtain ⟨o', q, ob⟩ := M.obj j a hj
      rw [ho] at q
      cases q
      exact ⟨o, by rw [List.getElem?_append_right (by rw [l2]; omega), l2, h1]; simp, ob.mw (cut1_mw hj)⟩
  · rcases at1 e with ⟨h1, q1⟩ | ⟨h1, q1⟩
    · rw [List.getElem?_append_left (by rw [l2]; exact h1), List.getElem?_take, if_pos h1]; exact M.gon i q1
    · cases q1
  · obtain ⟨u, k⟩ := M.hid b e
    refine ⟨u, fun z => ?_⟩
    rcases List.mem_append.mp z with z | z
    · exact k (List.mem_of_mem_take z)
    · have e : b = a := by simpa using z
      exact k (by rw [e]; exact List.mem_of_getElem? hj)
theorem XRep.mw {ι' : Io} {x : P} {c : Value} {dd : Option Addr} (s : Mw ι H ι' H) (h : XRep G H ι x c dd) : XRep G H ι' x c dd := by
  obtain ⟨C, ns, xs, e, ec, r⟩ := h
  refine ⟨C, ns, xs, e, ec, ?_⟩
  rcases r with r | ⟨dx, vs, ed, o, l, r⟩
  · exact .inl r
  · exact .inr ⟨dx, vs, ed, o.mw s (fun ps z => by cases z), l, RepL.mw s _ _ r⟩
end

/-! ### a def's promise -/
/-- what is wished for of an exception, whatever the names -/
abbrev WZ (E : XK) : WX := fun c d _ H => E c d H
structure FnG (P : Program) (w : World) (K : PySem.W.Frag) (mg : Str → Option Value) (base : Heap) (k : Nat) (f : Addr) (fd : FuncData) (ps : List Str) (S : List D → Mem → ER D) : Prop where
  run : ∀ (A : Around) (outer : List Env) (s : Shared) (H : Hp) (args : Args) (us : List Value) (vs : List V) (Q : VK) (E : XK) (ds : List D) (m : Mem) (ι : Io) (σ : L2.St), Room k A → A.guards = some [] → Env0 P w K mg base A outer s H → BindsTo s fd args (ps.zip us) → Vals vs us →
    ds.length = ps.length → RepDL ⟨P, w, K⟩ H ι ds vs → MRel ⟨P, w, K⟩ H ι m → ERP ⟨P, w, K⟩ (WZ E) σ ι H (fun H ι => RepD ⟨P, w, K⟩ H ι) (S ds m) Q →
    codeAny (model P w) A (.call (.ref f) args) (CR (L2.CX P w) outer P w H s Q E) s
theorem FnG.mono {P : Program} {w : World} {K : PySem.W.Frag} {mg : Str → Option Value} {base : Heap} {j k : Nat} {f : Addr} {fd : FuncData} {ps : List Str} {S : List D → Mem → ER D} (F : FnG P w K mg base j f fd ps S) (h : j ≤ k) : FnG P w K mg base k f fd ps S :=
  ⟨fun A outer s H args us vs Q E ds m ι σ hr => F.run A outer s H args us vs Q E ds m ι σ (hr.mono h)⟩
theorem SRel.start {G : Gx} {H : Hp} {ι : Io} {N : List Str} {ds : List D} {vs : List V} (r : RepDL G H ι ds vs) (hl : ds.length ≤ N.length) : SRel G H ι (start N vs) (starts N ds) where
  len := by
    have := r.length
    unfold L2.start starts
    simp only [List.length_append, List.length_map, List.length_replicate]
    omega
  at_ := fun i d e n => by
    have hl := r.length
    unfold starts at e
    unfold L2.start
    by_cases hi : i < ds.length
    · rw [List.getElem?_append_left hi] at e
      obtain ⟨v, h1, h2⟩ := r.get e
      exact ⟨v, by rw [List.getElem?_append_left (by rw [List.length_map]; omega), List.getElem?_map, h1]; rfl, h2⟩
    · rw [List.getElem?_append_right (by omega), List.getElem?_replicate] at e
      split at e
      · cases e; exact absurd rfl n
      · cases e
/-- a def of the text, by its body -/
theorem fng_of {P : Program} {w : World} {K : PySem.W.Frag} {mg : Str → Option Value} {base : Heap} {k : Nat} {f : Addr} {name qual : Str} {params : Arguments} {body : List Stmt} {scope : Scope} {dV kV doc pm cdv ct oc : Value} {an od : Option Addr}
    {osl : Array (Option Value)} {N ps : List Str} {fb : FS} (lk : K.lookup f = some ⟨oc, od, .func (PySem.W.fnOf name qual params body scope dV kV doc pm an cdv ct), osl⟩) (hcd : PySem.W.codeIn K cdv qual = true) (S : FnScope N ps scope)
    (hbody : ∀ (A : Around) (outer : List Env) (s : Shared) (H : Hp) (E : XK), Room k (A.deeper (envOfC qual scope s.heap.objs.size f cdv)) → (A.deeper (envOfC qual scope s.heap.objs.size f cdv)).guards = some [] →
      DTs (cxOf (L2.CX P w) P w K mg base N qual scope f cdv A outer s H E) (WZ E) body fb) :
    FnG P w K mg base (k + 1) f (PySem.W.fnOf name qual params body scope dV kV doc pm an cdv ct) ps (fnS N ps.length fb) := by
  refine ⟨fun A outer s H args us vs Q E ds m ι σ hr hgd e0 hb r hl rd M h => ?_⟩
  have hlv : vs.length = ps.length := by rw [← rd.length]; exact hl
  have KX : K.In s.heap := e0.mod.kin.keeps fun b o e => (e0.bs b o e).1
  have lim : s.heap.NoLimit := e0.mod.nolimit.keeps fun b o e => (e0.bs b o e).1
  have hkind : ∀ y ∈ ps.zip us, scope.names.lookup y.1 = some .local ∨ (scope.names.lookup y.1 = some .cell ∧ ((cellsFrom (s.heap.objs.size + 1) scope.names []).lookup y.1).isSome = true) := fun ⟨n, v⟩ hy => by
    rcases S.par n (List.of_mem_zip hy).1 with q | q
    · exact .inl q
    · exact .inr ⟨q, PySem.W.cellsFrom_some _ _ _ (.inl q)⟩
  refine codeAny_call_function hr.depth (KX _ _ lk) rfl S.co S.gen rfl (PySem.W.codeRec_of KX hcd) (hb _ _ _ _ ?_)
  refine wpAny_newFunctionEnv_cells S.kind hkind fun env he s1 x => ?_
  subst he
  refine ⟨lim.keeps x.toInCall.keep, codeAny_func ?_⟩
  have ht := hbody A outer s H E (hr.deeper _) hgd
  have I : Inv (cxOf (L2.CX P w) P w K mg base N qual scope f cdv A outer s H E) [] (start N vs) H s1 := inv_start S hr.hd e0 hlv r x
  have hpl : ps.length ≤ N.length := by have := congrArg List.length S.pre; rw [List.length_take] at this; omega
  have S0 : SRel ⟨P, w, K⟩ H ι (start N vs) (starts N ds) := .start rd (by omega)
  unfold fnS at h
  rw [if_pos hl] at h
  have hq : SRP ⟨P, w, K⟩ (WZ E) ι H (fb (starts N ds) m) { nx := fun _ H' => Q .non H', rt := Q } := by
    cases q : fb (starts N ds) m with
    | nx δ1 m1 =>
      rw [q] at h
      exact fun σ' H' ι' st Mr Sr => h .non H' _ (st.cut M.len.symm) Mr.cut (by simp [RepD, Rep])
    | rt d m1 =>
      rw [q] at h
      intro v H' ι' st Mr rv
      cases d with
      | p x => exact h v H' _ (st.cut M.len.symm) Mr.cut (Rep.mw cut_mw _ _ rv)
      | und => exact rv.elim
      | ref j =>
        unfold fin at h
        dsimp only at h
        split at h
        · rename_i hj
          obtain ⟨a, ev, ha⟩ := rv
          refine h v H' _ (st.cut M.len.symm) Mr.cut ⟨a, ev, ?_⟩
          show (ι'.at_.take m.length)[j]? = _ ∨ (ι'.at_.take m.length)[j]? = _
          rw [List.getElem?_take, if_pos hj]
          exact ha
        · rename_i hj
          split at h
          · rename_i o ho
            obtain ⟨a, ev, ha⟩ := rv
            obtain ⟨hi, ob⟩ := Mr.live ho ha
            have hle : m.length ≤ j := by omega
            refine h v H' _ (st.cut1 M.len.symm hi) (Mr.cut1 hle hi ho) ⟨a, ev, .inl ?_⟩
            have hl2 : j < ι'.at_.length := (List.getElem?_eq_some_iff.mp hi).1
            show (ι'.at_.take m.length ++ [some a])[m.length]? = _
            rw [List.getElem?_append_right (by rw [List.length_take]; omega)]
            have : m.length - (ι'.at_.take m.length).length = 0 := by rw [List.length_take]; omega
            rw [this]; rfl
          · exact h.elim
    | ex x δ1 m1 =>
      rw [q] at h
      exact fun c dd σ' H' ι' st Mr Sr xr => h c dd H' _ (st.cut M.len.symm) Mr.cut (xr.mw cut_mw)
    | bk δ1 m1 => rw [q] at h; exact h.elim
    | ct δ1 m1 => rw [q] at h; exact h.elim
    | bad => rw [q] at h; exact h.elim
  refine wpAny_mono (ht.run [] s1 (start N vs) H _ I ⟨starts N ds, m, ι, S0, M, hq⟩) (fun fl s' hs => ?_) fun e s' hs => hs
  have fin : ∀ {σ' : L2.St} {H' : Hp} {v : V} {u : Value}, Inv (cxOf (L2.CX P w) P w K mg base N qual scope f cdv A outer s H E) [] σ' H' s' → RelV v u → Q v H' → CE outer P w H s Q u s' :=
    fun {σ' H' v u} J rv q => ⟨v, H', J.os, J.bare, J.base, J.hok, rv, q⟩
  cases fl with
  | ret u =>
    obtain ⟨v, σ', H', J, rv, q⟩ := hs
    exact fin J rv q
  | next =>
    obtain ⟨σ', H', J, q⟩ := hs
    exact fin (v := V.non) (u := Value.none) J rfl q
  | brk =>
    obtain ⟨_, _, _, q⟩ := hs
    exact False.elim q
  | cont =>
    obtain ⟨_, _, _, q⟩ := hs
    exact False.elim q

/-! ### calls -/
def sFn (S : List D → Mem → ER D) (fr : FA) : FE := fun δ m => (fr δ m).bind fun ds m => S ds m
section
variable {X : Cx} {W : WX} {k : Nat} {f : Addr} {fd : FuncData} {ps : List Str} {S : List D → Mem → ER D} {x : Str} {p pos : Pos} {e : Expr} {es : List Expr} {fr : FA}
/-- nothing answers what is not there -/
def Lens (S : List D → Mem → ER D) (n : Nat) : Prop := ∀ ds m, ds.length ≠ n → S ds m = .bad
theorem lens_fnS {N : List Str} {k : Nat} {fb : FS} : Lens (fnS N k fb) k := fun ds m h => by unfold fnS; rw [if_neg h]
theorem run_fng {pins : List (Addr × Obj)} {σ : L2.St} {H : Hp} {s : Shared} {Q : VK} {us : List Value} {vs : List V} {ds : List D} {m : Mem} {ι : Io} (F : FnG X.prog X.w X.K X.mg X.base k f fd ps S) (L : Lens S ps.length) (hr : Room k X.A) (hgd : X.A.guards = some []) (hb : Binds X.K fd ps []) (tk : Takes X W)
    (I : Inv X pins σ H s) (r : Vals vs us) (rd : RepDL (gx X) H ι ds vs) (M : MRel (gx X) H ι m) (h : ERP (gx X) W σ ι H (fun H ι => RepD (gx X) H ι) (S ds m) Q) : wpAny (model X.prog X.w) X.A (call (.ref f) us) (EP X pins σ Q) X.xe s := by
  have hl : ds.length = ps.length := by
    by_cases hl : ds.length = ps.length
    · exact hl
    · rw [L ds m hl] at h; exact h.elim
  have hl2 : (us ++ []).length = ps.length := by rw [List.append_nil, ← r.length, ← rd.length]; exact hl
  have hb' := hb s us I.kIn hl2
  rw [List.append_nil] at hb'
  have h' : ERP (gx X) (WZ (WE W σ)) σ ι H (fun H ι => RepD (gx X) H ι) (S ds m) Q := by
    cases q : S ds m with
    | ok a m1 => rw [q] at h; exact h
    | ex x m1 => rw [q] at h; exact h
    | bad => rw [q] at h; exact h
  refine wpAny_call (codeAny_mono (F.run X.A X.stack s H ⟨us, []⟩ us vs Q (WE W σ) ds m ι σ hr hgd I.env0 hb' r hl rd M h') fun r s' hq => ?_)
  cases r with
  | error e => exact passAt tk σ pins H s e s' I hq
  | ok fl =>
    cases fl with
    | ret u => exact I.after hq
    | next => exact False.elim hq
    | brk => exact False.elim hq
    | cont => exact False.elim hq
theorem de_call (F : FnG X.prog X.w X.K X.mg X.base k f fd ps S) (L : Lens S ps.length) (hr : Room k X.A) (hgd : X.A.guards = some []) (hm : X.mg x = some (.ref f)) (hk : PySem.W.keepIn X.K (.ref f) = true) (hb : Binds X.K fd ps []) (tk : Takes X W)
    (ha : DA X W (e :: es) fr) (hg : Gl X x := by rfl) (hdb : (x == ("__debug__" : Str)) = false := by decide) (he : starEach (e :: es) X.env = (false, eval e X.env) :: starEach es X.env := by rfl) (hpl : (backTo pos (starEach es X.env)).any (·.1) = false := by rfl) :
    DE X W (.Call (.Name x p) (e :: es) [] pos) (sFn S fr) := by
  refine ⟨fun pins s σ H Q I ⟨δ, m, ι, Sr, M, h⟩ => ?_⟩
  refine wpAny_Call_Name_kw (ld_glob I hg hm ?_ hdb)
  refine PySem.W.callWith_K (h₀ := X.base) I.ok.mod.kin hk (thn (ha.run pos pins s σ H (fun vs H1 => ∃ ds m1 ι1, RepDL (gx X) H1 ι1 ds vs ∧ MRel (gx X) H1 ι1 m1 ∧ ERP (gx X) W σ ι1 H1 (fun H ι => RepD (gx X) H ι) (S ds m1) Q) I ⟨δ, m, ι, Sr, M, ?_⟩) fun us s1 ⟨vs, H1, I1, r, ds, m1, ι1, rd, M1, q⟩ => ⟨I1.kIn, ?_⟩) he hpl
  · exact h.seq fun ds m1 vs H1 ι1 _ s1 M1 r1 h1 => ⟨ds, m1, ι1, r1, M1, h1⟩
  · exact run_fng F L hr hgd hb tk I1 r rd M1 q
theorem de_call0 (F : FnG X.prog X.w X.K X.mg X.base k f fd ps S) (L : Lens S ps.length) (hr : Room k X.A) (hgd : X.A.guards = some []) (hm : X.mg x = some (.ref f)) (hk : PySem.W.keepIn X.K (.ref f) = true) (hb : Binds X.K fd ps []) (tk : Takes X W)
    (hg : Gl X x := by rfl) (hdb : (x == ("__debug__" : Str)) = false := by decide) : DE X W (.Call (.Name x p) [] [] pos) (sFn S sNil) := by
  refine ⟨fun pins s σ H Q I ⟨δ, m, ι, Sr, M, h⟩ => ?_⟩
  refine wpAny_Call_Name_kw (ld_glob I hg hm ?_ hdb)
  exact PySem.W.callWith_K0 I.kIn hk (run_fng (us := []) (vs := []) (ds := []) F L hr hgd hb tk I .nil rfl M h)
end
end DL

set_option Elab.async false
set_option linter.all false
set_option maxRecDepth 100000
/-! The data layer, part o: a law's defs, constants, its end. -/
namespace DL
open PySem PySem.Spec PyProof.Rows L2

/-- a def that may be called by its name, n arguments -/
def Callee (P : Program) (w : World) (K : PySem.W.Frag) (mg : Str → Option Value) (base : Heap) (k : Nat) (x : Str) (n : Nat) (S : List D → Mem → ER D) : Prop :=
  ∃ (f : Addr) (fd : FuncData) (ps : List Str), FnG P w K mg base k f fd ps S ∧ ps.length = n ∧ Lens S n ∧ mg x = some (.ref f) ∧ PySem.W.keepIn K (.ref f) = true ∧ Binds K fd ps []
theorem Callee.mono {P : Program} {w : World} {K : PySem.W.Frag} {mg : Str → Option Value} {base : Heap} {j k n : Nat} {x : Str} {S : List D → Mem → ER D} (C : Callee P w K mg base j x n S) (h : j ≤ k) : Callee P w K mg base k x n S :=
  let ⟨f, fd, ps, F, r⟩ := C; ⟨f, fd, ps, F.mono h, r⟩
section
variable {X : Cx} {W : WX} {k n : Nat} {S : List D → Mem → ER D} {x : Str} {p pos : Pos} {e : Expr} {es : List Expr} {fr : FA}
theorem de_fn (C : Callee X.prog X.w X.K X.mg X.base k x n S) (hr : Room k X.A) (hgd : X.A.guards = some []) (tk : Takes X W)
    (ha : DA X W (e :: es) fr) (hg : Gl X x := by rfl) (hdb : (x == ("__debug__" : Str)) = false := by decide) (he : starEach (e :: es) X.env = (false, eval e X.env) :: starEach es X.env := by rfl) (hpl : (backTo pos (starEach es X.env)).any (·.1) = false := by rfl) :
    DE X W (.Call (.Name x p) (e :: es) [] pos) (sFn S fr) := by
  obtain ⟨f, fd, ps, F, hn, L, hm, hk, hb⟩ := C
  subst hn
  exact de_call F L hr hgd hm hk hb tk ha hg hdb he hpl
theorem de_fn0 (C : Callee X.prog X.w X.K X.mg X.base k x n S) (hr : Room k X.A) (hgd : X.A.guards = some []) (tk : Takes X W) (hg : Gl X x := by rfl) (hdb : (x == ("__debug__" : Str)) = false := by decide) :
    DE X W (.Call (.Name x p) [] [] pos) (sFn S sNil) := by
  obtain ⟨f, fd, ps, F, hn, L, hm, hk, hb⟩ := C
  subst hn
  exact de_call0 F L hr hgd hm hk hb tk hg hdb
end
theorem room_hu {k : Nat} {A : Around} (r : Room k A) : A.units + 110 < cLine := by
  have := r.un
  omega
/-! ### facts by names -/
structure Zf (fa : List He.Fa) (fn : List He.DefD) (ex : PySem.W.Frag → Bool) (K : PySem.W.Frag) (mg : Str → Option Value) : Prop where
  ok : ∀ f ∈ fa, f.ok K = true
  df : ∀ d ∈ fn, ∃ fd, FunD K d.name d.qual d.params d.body d.scope (d.dvs K) (d.kws K) (He.fAd K d.at_) fd
  ex : ex K = true
  gr : ∃ h : Heap, K.In h ∧ h.Ns mainGlobals mg
section
variable {fa : List He.Fa} {fn : List He.DefD} {ex : PySem.W.Frag → Bool} {K : PySem.W.Frag} {mg : Str → Option Value} {P : Program} {w : World} {base : Heap}
theorem Zf.at_ (Z : Zf fa fn ex K mg) (i : Nat) {f : He.Fa} (h : fa[i]? = some f) : f.ok K = true := Z.ok f (List.mem_of_getElem? h)
theorem Zf.fr (Z : Zf fa fn ex K mg) (i : Nat) {x : Str} (h : fa[i]? = some (.free x) := by rfl) : mg x = none := let ⟨_, X, G⟩ := Z.gr; He.free_ok X G (Z.at_ i h)
theorem Zf.gl (Z : Zf fa fn ex K mg) (i : Nat) {x : Str} (h : fa[i]? = some (.glo x) := by rfl) : mg x = some (.ref (He.ga K x)) := let ⟨_, X, G⟩ := Z.gr; He.glo_ok X G (Z.at_ i h)
theorem Zf.int {X : Cx} (Z : Zf fa fn ex X.K X.mg) (i : Nat) {x : Str} {j : Int} (h : fa[i]? = some (.int x j) := by rfl) : KonV X x (.int j) := by
  obtain ⟨hh, Y, G⟩ := Z.gr
  obtain ⟨t, e⟩ := He.int_ok Y G (Z.at_ i h)
  exact ⟨_, .int j, e, ⟨t, rfl⟩, fun H ι => rep_int⟩
theorem Zf.str {X : Cx} (Z : Zf fa fn ex X.K X.mg) (i : Nat) {x z : Str} (h : fa[i]? = some (.str x z) := by rfl) : KonV X x (.str z) := by
  obtain ⟨hh, Y, G⟩ := Z.gr
  obtain ⟨t, e⟩ := He.str_ok Y G (Z.at_ i h)
  exact ⟨_, .str z, e, ⟨t, rfl⟩, fun H ι => rep_str⟩
theorem rep_strs {G : Gx} {H : Hp} {ι : Io} : ∀ zs : List Str, RepL G H ι (zs.map DL.P.str) (zs.map V.str)
  | [] => .nil
  | z :: zs => .cons rep_str (rep_strs zs)
theorem dv_strs (K : PySem.W.Frag) (zs : List Str) : (zs.map He.Dv.str).map (He.Dv.v K) = zs.map V.str := by rw [List.map_map]; rfl
/-- a tuple of texts -/
theorem Zf.strs {X : Cx} (Z : Zf fa fn ex X.K X.mg) (i : Nat) {x : Str} {zs : List Str} (ht : He.tupB X.K x (zs.map He.Dv.str) = true) (h : fa[i]? = some (.glo x) := by rfl) : KonV X x (.tup (zs.map DL.P.str)) := by
  refine ⟨_, .ref (He.ga X.K x), Z.gl i h, rfl, fun H ι => ?_⟩
  have ht2 := ht
  unfold He.tupB at ht
  cases q : X.K.lookup (He.ga X.K x) with
  | none =>
    rw [q] at ht
    cases ht
  | some o =>
    obtain ⟨oc, od, dt, osl⟩ := o
    rw [q] at ht
    cases oc with
    | type c =>
      cases dt with
      | seq its n =>
        obtain ⟨h1, h2⟩ := He.ba (show (decide (c = "tuple") && (decide (its.size ≤ sizeLine) && He.relAll ((zs.map He.Dv.str).map (He.Dv.v X.K)) its.toList)) = true from ht)
        obtain ⟨h3, h4⟩ := He.ba h2
        refine rep_tup0 (vs := zs.map V.str) (.inr ⟨_, its, n, q, congrArg Value.type (of_decide_eq_true h1), rfl, of_decide_eq_true h3, ?_⟩) (rep_strs zs)
        rw [← dv_strs X.K zs]
        exact He.relAll_ok h4
      | _ => cases ht
    | _ => cases dt <;> cases ht
/-- a def of the text -/
theorem Zf.dfn (Z : Zf fa fn ex K mg) (i j : Nat) {d : He.DefD} {N ps : List Str} {k n : Nat} {fb : FS} {x : Str} (hd : fn[i]? = some d) (hx : d.at_ = (x, none)) (hn : ps.length = n) (S : FnScope N ps d.scope)
    (hb : ∀ (kV doc pm : Value) (an : Option Addr) (cdv ct : Value) (us : List Value), us.length = ps.length → bindArgs (PySem.W.fnOf d.name d.qual d.params d.body d.scope .none kV doc pm an cdv ct) ⟨us, []⟩ = pure (ps.zip us))
    (hbody : ∀ (f : Addr) (cdv : Value) (A : Around) (outer : List Env) (s : Shared) (H : Hp) (E : XK), Room k (A.deeper (envOfC d.qual d.scope s.heap.objs.size f cdv)) → (A.deeper (envOfC d.qual d.scope s.heap.objs.size f cdv)).guards = some [] →
      DTs (cxOf (L2.CX P w) P w K mg base N d.qual d.scope f cdv A outer s H E) (WZ E) d.body fb)
    (hD : d.dfl = [] := by rfl) (hK : d.kwd = [] := by rfl) (hg : fa[j]? = some (.glo x) := by rfl) : Callee P w K mg base (k + 1) x n (fnS N n fb) := by
  obtain ⟨fd, F⟩ := Z.df d (List.mem_of_getElem? hd)
  have e1 : d.dvs K = [] := by unfold He.DefD.dvs; rw [hD]; rfl
  have e2 : d.kws K = [] := by unfold He.DefD.kws; rw [hK]; rfl
  rw [e1, e2] at F
  have e3 : He.fAd K d.at_ = He.ga K x := by rw [hx]; rfl
  rw [e3] at F
  have B : Binds K fd ps [] := F.bindsN hb
  obtain ⟨oc, od, dV, kV, doc, pm, an, cdv, ct, osl, efd, lk, hcd, _, _⟩ := id F.ex
  subst hn
  refine ⟨_, fd, ps, ?_, rfl, lens_fnS, Z.gl j hg, F.kp, B⟩
  subst efd
  exact fng_of lk hcd S fun A outer s H E hr hgd => hbody _ cdv A outer s H E hr hgd
end

theorem fng_funD {P : Program} {w : World} {K : PySem.W.Frag} {mg : Str → Option Value} {base : Heap} {name qual : Str} {params : Arguments} {body : List Stmt} {scope : Scope} {dvs : List V} {kws : List (Str × V)} {f : Addr} {fd : FuncData} {N ps : List Str} {k : Nat} {fb : FS} (F : FunD K name qual params body scope dvs kws f fd) (S : FnScope N ps scope)
    (hbody : ∀ (cdv : Value) (A : Around) (outer : List Env) (s : Shared) (H : Hp) (E : XK), Room k (A.deeper (envOfC qual scope s.heap.objs.size f cdv)) → (A.deeper (envOfC qual scope s.heap.objs.size f cdv)).guards = some [] →
      DTs (cxOf (L2.CX P w) P w K mg base N qual scope f cdv A outer s H E) (WZ E) body fb) : FnG P w K mg base (k + 1) f fd ps (fnS N ps.length fb) := by
  obtain ⟨oc, od, dV, kV, doc, pm, an, cdv, ct, osl, efd, lk, hcd, _, _⟩ := F.ex
  subst efd
  exact fng_of lk hcd S fun A outer s H E hr hgd => hbody cdv A outer s H E hr hgd

/-! ### the end -/
theorem rep_ints {G : Gx} {H : Hp} {ι : Io} : ∀ ns : List Int, RepL G H ι (ns.map DL.P.int) (ns.map V.int)
  | [] => .nil
  | n :: ns => .cons rep_int (rep_ints ns)
theorem law_callG {P : Program} {w : World} {K : PySem.W.Frag} {mg mb : Str → Option Value} {k : Nat} {fa a : Addr} {fd : FuncData} {x : Str} {S : List D → Mem → ER D} {s₁ : Shared} {vs : List Value} {ns : List Int}
    (KX : K.In s₁.heap) (hns : s₁.heap.Ns mainGlobals mg) (hb : s₁.heap.Ns builtinsNs mb) (hbb : ∀ x : Str, x ≠ "__name__" → mb x = bootBuiltins x) (hlim : s₁.heap.NoLimit) (hg : s₁.gens = #[])
    (ha : s₁.heap.get? a = some { cls := .type "list", data := .seq vs.toArray }) (hi : IntsAre vs ns) (hl : ns.length ≤ sizeLine) (hr : Room k callerA)
    (hnl : ∀ o, K.lookup a = some o → o.cls ≠ .type "list")
    (F : ∀ base : Heap, K.In base → base.Ns mainGlobals mg → FnG P w K mg base k fa fd [x] S) (hbind : ∀ (s : Shared) (u : Value), BindsTo s fd ⟨[u], []⟩ [(x, u)])
    (hS : S [.p (.lst (ns.map DL.P.int))] [] = .ok (.p (.bl true)) []) :
    codeAny (model P w) callerA (.call (.ref fa) ⟨[.ref a], []⟩) (fun r s' => r = .ok (.ret (.bool true)) ∧ OldK s₁.heap s'.heap ∧ s'.os = s₁.os ∧ AllBare s'.gens) s₁ := by
  have rv := vals_ints hi
  have lenV := hi.length
  have hk : K.lookup a = none := by
    cases e : K.lookup a with
    | none => rfl
    | some o =>
      have q := KX a o e
      rw [ha] at q
      cases q
      exact absurd rfl (hnl _ e)
  obtain ⟨H, hH⟩ : ∃ H : Hp, H = fun b => if b = a then some (HO.frz { cls := .type "list", data := .seq vs.toArray } (.lst (ns.map V.int))) else none := ⟨_, rfl⟩
  have Ha : H a = some (.frz { cls := .type "list", data := .seq vs.toArray } (.lst (ns.map V.int))) := by rw [hH]; exact if_pos rfl
  have Hn : ∀ b, b ≠ a → H b = none := fun b hb => by rw [hH]; exact if_neg hb
  have hok : HOk P w H s₁.heap := fun b u z => by
    by_cases hb : b = a
    · subst hb
      rw [Ha] at z
      cases z
      exact ⟨ha, by rw [List.length_map]; exact hl, vs, _, rv, ha⟩
    · rw [Hn b hb] at z; cases z
  have base_of : ∀ {b : Addr} {o : Obj}, s₁.heap.get? b = some o → H b = none → (hidT s₁.heap H).get? b = some o := fun e n => hidT_get e n
  have noA : ∀ {b : Addr} {o : Obj} {es : Array DictEntry} {ep : Nat}, s₁.heap.get? b = some o → o.data = .dict es ep → H b = none := fun {b o es ep} e d => by
    refine Hn b fun z => ?_
    subst z
    rw [ha] at e; cases e
    have d' : Data.seq vs.toArray _ = Data.dict es ep := d
    cases d'
  have nsK : ∀ {b : Addr} {m : Str → Option Value}, s₁.heap.Ns b m → (hidT s₁.heap H).Ns b m := fun {b m} ⟨o, es, ep, e, d, r⟩ => ⟨o, es, ep, base_of e (noA e d), d, r⟩
  have hKb : K.In (hidT s₁.heap H) := fun b o e => base_of (KX b o e) (Hn b fun z => by rw [z, hk] at e; cases e)
  have hM : Mod K mg (hidT s₁.heap H) := ⟨hKb, nsK hns, ⟨mb, nsK hb, hbb⟩, let ⟨mc, h1, h2⟩ := hlim; ⟨mc, nsK h1, h2⟩⟩
  have e0 : Env0 P w K mg (hidT s₁.heap H) callerA [] s₁ H := ⟨rfl, hM, fun b o e => of_hidT e, Nat.le_of_eq (hidT_size _ _), trivial, fun b hb => absurd (show b ∈ ([] : List Addr) from hb) (by simp), hok, .of_eq hg⟩
  have M0 : MRel ⟨P, w, K⟩ H ⟨[], []⟩ [] := ⟨rfl, fun i j a e => by simp at e, fun i a e => by simp at e, fun i e => by simp at e, fun a e => by cases e⟩
  have rd : RepDL ⟨P, w, K⟩ H ⟨[], []⟩ [.p (.lst (ns.map DL.P.int))] [.ref a] := by
    refine ⟨.ref a, [], rfl, ?_, rfl⟩
    simp only [RepD, Rep]
    exact ⟨a, ns.map V.int, rfl, .inr ⟨_, Ha, by simp [Io.fre]⟩, rep_ints ns⟩
  refine codeAny_mono ((F _ hKb (nsK hns)).run callerA [] s₁ H ⟨[.ref a], []⟩ [.ref a] [.ref a] (fun v _ => v = .bl true) (fun _ _ _ => False) _ [] ⟨[], []⟩ [] hr rfl e0 (hbind s₁ (.ref a)) (.cons rfl .nil) rfl rd M0 ?_) fun r s' h => ?_
  · rw [hS]
    intro v H' ι' _ _ r
    simpa [RepD, Rep] using r
  · cases r with
    | error e =>
      obtain ⟨_, _, _, _, _, _, _, _, _, _, _, _, z⟩ := (show L2.CX P w [] H s₁ (fun _ _ _ => False) e s' from h)
      exact z.elim
    | ok fl =>
      cases fl with
      | next => exact False.elim h
      | brk => exact False.elim h
      | cont => exact False.elim h
      | ret u =>
        obtain ⟨v, H', os, bare, un, hok', r', q⟩ := h
        have q' : v = .bl true := q
        subst q'
        obtain rfl : u = Value.bool true := r'
        refine ⟨rfl, OldK.of_keep fun b o e => ?_, os, bare⟩
        by_cases hb : b = a
        · subst hb
          have z2 := un.frzs b _ _ Ha
          obtain ⟨e1, _⟩ := hok b _ Ha
          obtain ⟨e2, _⟩ := hok' b _ z2
          rw [e] at e1; cases e1
          exact e2
        · exact un.keep b o e (Hn b hb) (by intro z; exact absurd (show b ∈ ([] : List Addr) from z) (by simp)) (by simp)
/-- no list stands in the written part -/
def noLists (K : PySem.W.Frag) : Bool := K.all fun q => match q.2.cls with
  | .type c => decide (c ≠ "list")
  | _ => true
theorem noLists_ok {K : PySem.W.Frag} (h : noLists K = true) {a : Addr} {o : Obj} (e : K.lookup a = some o) : o.cls ≠ .type "list" := fun z => by
  have := List.all_eq_true.mp h (a, o) (He.lookup_mem e)
  rw [z] at this
  exact absurd (of_decide_eq_true (show decide ("list" ≠ "list") = true from this)) (by simp)
theorem walk_ofG {l : PySem.W.OpenLaw} {n k : Nat} {q : Program} {loose : List Str} {XP : (Str → Option Value) → Heap → Prop} {YP : World → Heap → Prop} {d : DefRec} {x : Str} {S : List D → Mem → ER D}
    (hn : l.most = some n) (hn2 : n ≤ sizeLine) (hdf : d.params.defaults = []) (hr : Room k callerA)
    (F : ∀ (w : World) (mg : Str → Option Value) (fa : Addr) (h : Heap), YP w h → h.Ns mainGlobals mg → mg d.name = some (.ref fa) →
      ∃ (K : PySem.W.Frag) (fd : FuncData), K.In h ∧ noLists K = true ∧ (∀ (s : Shared) (u : Value), BindsTo s fd ⟨[u], []⟩ [(x, u)]) ∧
        ∀ base : Heap, K.In base → base.Ns mainGlobals mg → FnG l.prog w K mg base k fa fd [x] S)
    (hS : ∀ ns : List Int, ns.length ≤ n → S [.p (.lst (ns.map DL.P.int))] [] = .ok (.p (.bl true)) []) :
    PySem.W.WalkO q loose XP YP l.row.toRowW d [] (fun f vs => PySem.call f vs) := by
  refine Att.attach_call hn hdf fun w s₀ s₁ mg mb fa o pm cd doc a vs ns G Y ho hd hcd hmg hobj hints hlen hg => ?_
  obtain ⟨K, fd, KX, hnl, hb, hF⟩ := F w mg fa _ Y G.T.g hmg
  exact law_callG KX G.T.g G.T.b G.T.builtins G.T.nolimit hg hobj hints (Nat.le_trans hlen hn2) hr (fun o e => noLists_ok hnl e) hF hb (hS ns hlen)
end DL

set_option Elab.async false
set_option linter.all false
set_option maxRecDepth 100000
/-! The data layer, part p: displays of dicts, list(range(..)), comprehensions that are written to, tests in a row. -/
namespace DL
open PySem PySem.Spec PyProof.Rows L2

/-! ### a hidden object becomes one of ours -/
section
variable {G : Gx} {D : Addr} {ι1 ι ι' : Io} {H1 H H' : Hp} {m m' : Mem}
/-- the state while an object at D is not told -/
structure KH (G : Gx) (D : Addr) (ι1 : Io) (H1 : Hp) (ι : Io) (H : Hp) (m : Mem) : Prop where
  hd : ι.hid = D :: ι1.hid
  st : Step ι1 H1 ⟨ι.at_, ι1.hid⟩ H
  mr : MRel G H ι m
theorem KC.kh {acc : List P} (k : KC G D ι1 H1 ι H m acc) : KH G D ι1 H1 ι H m := ⟨k.hd, k.st, k.mr⟩
theorem KH.start {u : HO} (M : MRel G H1 ι1 m) (hD : H1 D = none) : KH G D ι1 H1 (ι1.hide D) (upd H1 D u) m where
  hd := rfl
  st := .same (Same.upd hD)
  mr := by
    have s : Mv ι1 H1 (ι1.hide D) (upd H1 D u) := .hide hD
    refine ⟨M.len, M.inj, fun i a e => ?_, M.gon, fun a e => ?_⟩
    · obtain ⟨o, q, ob⟩ := M.obj i a e
      obtain ⟨w, hu⟩ := ob.some_
      exact ⟨o, q, ob.toM s (upd_ne (ne_of_none hu hD))⟩
    · rcases List.mem_cons.mp e with e | e
      · subst e
        exact ⟨⟨_, upd_same⟩, (M.fresh hD).1⟩
      · obtain ⟨⟨w, hu⟩, n⟩ := M.hid a e
        exact ⟨⟨w, by rw [upd_ne (ne_of_none hu hD)]; exact hu⟩, n⟩
theorem KH.inh (k : KH G D ι1 H1 ι H m) : D ∈ ι.hid := by rw [k.hd]; exact List.mem_cons_self
theorem KH.step (k : KH G D ι1 H1 ι H m) (s : Step ι H ι' H') (M : MRel G H' ι' m') : KH G D ι1 H1 ι' H' m' := ⟨s.hid.trans k.hd, k.st.trans (Step.unhid (a := ι.hid) (b := ι'.hid) s), M⟩
/-- told, as the last one -/
theorem KH.adopt {u : HO} {o : MO} (k : KH G D ι1 H1 ι H m) (hD : H1 D = none) (ob : MObj G (upd H D u) ⟨ι.at_ ++ [some D], ι1.hid⟩ D o) (hn : D ∉ ι1.hid) :
    MRel G (upd H D u) ⟨ι.at_ ++ [some D], ι1.hid⟩ (m ++ [some o]) ∧ Step ι1 H1 ⟨ι.at_ ++ [some D], ι1.hid⟩ (upd H D u) := by
  have dn : some D ∉ ι.at_ := (k.mr.hid D k.inh).2
  have mv : Mv ι H ⟨ι.at_ ++ [some D], ι1.hid⟩ (upd H D u) := by
    refine ⟨⟨fun a w h nt => ?_⟩, by simp, fun i q e l => ?_⟩
    · have ne : a ≠ D := fun z => h.2.2 (by rw [z]; exact k.inh)
      refine ⟨by rw [upd_ne ne]; exact h.1, fun z => ?_, fun z => h.2.2 (by rw [k.hd]; exact List.mem_cons_of_mem _ z)⟩
      rcases List.mem_append.mp z with z | z
      · exact h.2.1 z
      · exact ne (by simpa using z)
    · have e' : (ι.at_ ++ [some D])[i]? = some q := e
      rw [List.getElem?_append_left l] at e'
      exact .inl e'
  have at1 : ∀ {i : Nat} {q : Option Addr}, (ι.at_ ++ [some D])[i]? = some q → (i < ι.at_.length ∧ ι.at_[i]? = some q) ∨ (i = ι.at_.length ∧ q = some D) := fun {i q} e => by
    by_cases hi : i < ι.at_.length
    · rw [List.getElem?_append_left hi] at e
      exact .inl ⟨hi, e⟩
    · rw [List.getElem?_append_right (by omega)] at e
      cases z : i - ι.at_.length with
      | zero => rw [z] at e; simp at e; exact .inr ⟨by omega, e.symm⟩
      | succ k => rw [z] at e; simp at e
  have hlen := k.mr.len
  refine ⟨⟨by simp [hlen], fun i j a e1 e2 => ?_, fun i a e => ?_, fun i e => ?_, fun a e => ?_⟩, ⟨?_, fun i q e l => ?_, fun b q h n nt => ?_, fun b e n => ?_, fun b ps h => ?_, rfl⟩⟩
  · rcases at1 e1 with ⟨h1, q1⟩ | ⟨h1, q1⟩
    · rcases at1 e2 with ⟨h2, q2⟩ | ⟨h2, q2⟩
      · exact k.mr.inj i j a q1 q2
      · cases q2; exact absurd (List.mem_of_getElem? q1) dn
    · rcases at1 e2 with ⟨h2, q2⟩ | ⟨h2, q2⟩
      · cases q1; exact absurd (List.mem_of_getElem? q2) dn
      · omega
  · rcases at1 e with ⟨h1, q1⟩ | ⟨h1, q1⟩
    · obtain ⟨o', q, ob'⟩ := k.mr.obj i a q1
      exact ⟨o', by rw [List.getElem?_append_left (by omega)]; exact q, ob'.toM mv (upd_ne fun z => dn (by rw [← z]; exact List.mem_of_getElem? q1))⟩
    · cases q1
      exact ⟨o, by rw [List.getElem?_append_right (by omega), h1, hlen]; simp, ob⟩
  · rcases at1 e with ⟨h1, q1⟩ | ⟨h1, q1⟩
    · rw [List.getElem?_append_left (by omega)]; exact k.mr.gon i q1
    · cases q1
  · obtain ⟨⟨w, hw⟩, n⟩ := k.mr.hid a (by rw [k.hd]; exact List.mem_cons_of_mem _ e)
    have ne : a ≠ D := fun z => hn (by rw [← z]; exact e)
    refine ⟨⟨w, by rw [upd_ne ne]; exact hw⟩, fun z => ?_⟩
    rcases List.mem_append.mp z with z | z
    · exact n z
    · exact ne (by simpa using z)
  · have h1 : ι1.at_.length ≤ ι.at_.length := k.st.len
    show ι1.at_.length ≤ (ι.at_ ++ [some D]).length
    rw [List.length_append]
    omega
  · rcases at1 e with ⟨h1, q1⟩ | ⟨h1, q1⟩
    · exact k.st.pre i q q1 l
    · have h2 : ι1.at_.length ≤ ι.at_.length := k.st.len
      omega
  · rw [upd_ne (ne_of_none h hD)]; exact k.st.keep b q h n nt
  · rcases List.mem_append.mp e with e | e
    · exact k.st.new b e n
    · have z : b = D := by simpa using e
      rw [z]; exact hD
  · rw [upd_ne (ne_of_none h hD)]; exact k.st.tbl b ps h
theorem KH.rep_mv {u : HO} {x : List P} {vs : List V} (k : KH G D ι1 H1 ι H m) (r : RepL G H ι x vs) : RepL G (upd H D u) ⟨ι.at_ ++ [some D], ι1.hid⟩ x vs := by
  have dn : some D ∉ ι.at_ := (k.mr.hid D k.inh).2
  refine RepL.mw (ι := ι) (H := H) ⟨fun a w h nt => ?_⟩ _ _ r
  have ne : a ≠ D := fun z => h.2.2 (by rw [z]; exact k.inh)
  refine ⟨by rw [upd_ne ne]; exact h.1, fun z => ?_, fun z => h.2.2 (by rw [k.hd]; exact List.mem_cons_of_mem _ z)⟩
  rcases List.mem_append.mp z with z | z
  · exact h.2.1 z
  · exact ne (by simpa using z)
end

/-! ### displays of dicts -/
/-- keys and values, in turn -/
def dPairs : List (FE × FE) → DS → Mem → ER (List (P × P))
  | [], _, m => .ok [] m
  | q :: l, δ, m => (q.1 δ m).bindN fun d m => (q.2 δ m).bindN fun e m => match d, e with
    | .p x, .p y => (dPairs l δ m).bindN fun ps m => .ok ((x, y) :: ps) m
    | _, _ => .bad
def keysOf : List (P × P) → Option (List Key)
  | [] => some []
  | q :: l => q.1.ky.bind fun k => (keysOf l).map (k :: ·)
def mkD (ps : List (P × P)) (m : Mem) : ER D := match keysOf ps with
  | some ks => if ks.Nodup ∧ ps.length ≤ 15 then .ok (.ref m.length) (m ++ [some (.dK ks (ps.map (·.2)))]) else .bad
  | none => .bad
def sDisp (l : List (FE × FE)) : FE := fun δ m => (dPairs l δ m).bindN mkD
def PRel (G : Gx) (H : Hp) (ι : Io) : List (P × P) → List (V × V) → Prop
  | [], vs => vs = []
  | q :: l, vs => ∃ v u r, vs = (v, u) :: r ∧ Rep G H ι q.1 v ∧ Rep G H ι q.2 u ∧ PRel G H ι l r
section
variable {X : Cx} {W : WX} {pos : Pos}
abbrev DPs (X : Cx) (W : WX) (pos : Pos) (ks : List (Option Expr)) (vs : List Expr) (l : List (FE × FE)) : Prop := PPs X pos ks vs (l.map fun q => (tD X W q.1, tD X W q.2))
theorem dps_nil : DPs X W pos [] [] [] := pps_nil
theorem dps_cons {k v : Expr} {ks : List (Option Expr)} {vs : List Expr} {fk fv : FE} {l : List (FE × FE)} (hk : DE X W k fk) (hv : DE X W v fv) (hr : DPs X W pos ks vs l) : DPs X W pos (some k :: ks) (v :: vs) ((fk, fv) :: l) := pps_cons hk hv hr
theorem prel_mv {G : Gx} {ι ι' : Io} {H H' : Hp} (s : Mv ι H ι' H') : ∀ {ps : List (P × P)} {vs : List (V × V)}, PRel G H ι ps vs → PRel G H' ι' ps vs
  | [], _, h => h
  | _ :: _, _, ⟨v, u, r, e, h1, h2, h3⟩ => ⟨v, u, r, e, Rep.mv s _ _ h1, Rep.mv s _ _ h2, prel_mv s h3⟩
theorem tPairs_of : ∀ {l : List (FE × FE)} {δ : DS} {σ : L2.St} {H : Hp} {ι : Io} {m m' : Mem} {ps : List (P × P)} {Q : List (V × V) → Hp → Prop}, SRel (gx X) H ι σ δ → MRel (gx X) H ι m → dPairs l δ m = .ok ps m' →
    (∀ vs H' ι', Step ι H ι' H' → MRel (gx X) H' ι' m' → PRel (gx X) H' ι' ps vs → Q vs H') → tPairs (l.map fun q => (tD X W q.1, tD X W q.2)) σ H Q
  | [], δ, σ, H, ι, m, m', ps, Q, S, M, h, k => by
    cases h
    exact k [] H ι (.refl _ _) M rfl
  | q :: l, δ, σ, H, ι, m, m', ps, Q, S, M, h, k => by
    obtain ⟨d, m1, e1, h⟩ := bindN_ok h
    obtain ⟨e, m2, e2, h⟩ := bindN_ok h
    split at h
    · rename_i x y
      obtain ⟨qs, m3, e3, h⟩ := bindN_ok h
      cases h
      refine ⟨δ, m, ι, S, M, ?_⟩
      rw [e1]
      intro v H1 ι1 s1 M1 r1
      refine ⟨δ, m1, ι1, S.step s1, M1, ?_⟩
      rw [e2]
      intro u H2 ι2 s2 M2 r2
      refine tPairs_of (S.step (s1.trans s2)) M2 e3 fun vs H3 ι3 s3 M3 r3 => k _ H3 ι3 (s1.trans (s2.trans s3)) M3 ⟨v, u, vs, rfl, Rep.step (s2.trans s3) _ _ r1, Rep.step s3 _ _ r2, r3⟩
    · cases h
theorem keys_rep {G : Gx} {H : Hp} {ι : Io} : ∀ {ps : List (P × P)} {ks : List Key} {vs : List (V × V)}, keysOf ps = some ks → PRel G H ι ps vs → ks.length = ps.length ∧ vs = (ks.zip (vs.map (·.2))).map (fun kv => (kV kv.1, kv.2)) ∧ RepL G H ι (ps.map (·.2)) (vs.map (·.2))
  | [], ks, vs, h, r => by cases h; rw [show vs = [] from r]; exact ⟨rfl, rfl, .nil⟩
  | q :: l, ks, vs, h, r => by
    obtain ⟨k, hk, h⟩ := Option.bind_eq_some_iff.mp h
    obtain ⟨ks', h1, h2⟩ := Option.map_eq_some_iff.mp h
    subst h2
    obtain ⟨v, u, r', e, r1, r2, r3⟩ := r
    subst e
    obtain ⟨e1, e2, e3⟩ := keys_rep h1 r3
    refine ⟨by simp [e1], ?_, .cons r2 e3⟩
    rw [List.map_cons, List.zip_cons_cons, List.map_cons, ← e2, ky_rep hk (Rep.rn r1)]
theorem merge_new : ∀ {ks : List Key} {vs : List V} {acc : List (Key × V)}, ks.Nodup → (∀ k ∈ ks, valV acc k = none) → mergeK acc (ks.zip vs) = acc ++ ks.zip vs
  | [], vs, acc, _, _ => by simp [mergeK]
  | k :: ks, [], acc, _, _ => by simp [mergeK]
  | k :: ks, v :: vs, acc, nd, h => by
    have nd' := List.nodup_cons.mp nd
    rw [List.zip_cons_cons]
    show mergeK (putK acc k v) (ks.zip vs) = _
    rw [putK_new v (h k List.mem_cons_self), merge_new nd'.2 fun j hj => ?_]
    · simp
    · have := h j (List.mem_cons_of_mem _ hj)
      unfold valV at this ⊢
      rw [List.find?_append]
      cases q : acc.find? fun kv => decide (kv.1 = j) with
      | some w => rw [q] at this; cases this
      | none =>
        have ne : ¬ k = j := fun z => nd'.1 (by rw [z]; exact hj)
        simp [ne]
theorem de_disp {keys : List (Option Expr)} {values : List Expr} {l : List (FE × FE)} (h : DPs X W pos keys values l) (hall : keys.all (·.isSome) = true := by rfl) (hl : keys.length = values.length := by rfl) (h0 : keys ≠ [] := by simp) (h15 : keys.length ≤ 15 := by decide) :
    DE X W (.Dict keys values pos) (sDisp l) := (pe_disp h hall hl h0 h15).conv fun σ H Q ⟨δ, m, ι, S, M, h⟩ => by
  obtain ⟨ps, m1, e1, h⟩ := ERP.okOf h
  intro p hp
  unfold mkD at h
  split at h
  case h_2 => exact h.elim
  rename_i ks hk
  split at h
  case isFalse => exact h.elim
  rename_i hc
  have k0 : KH (gx X) p ι H (ι.hide p) (upd H p (.dK [])) m := .start M hp
  have mv0 : Mv ι H (ι.hide p) (upd H p (.dK [])) := .hide hp
  refine tPairs_of (S.mv mv0) k0.mr e1 fun vs H' ι' s' M' r' => ?_
  have k1 := k0.step s' M'
  have hH : H' p = some (.dK []) := s'.keep p _ upd_same (k0.mr.hid p k0.inh).2 (fun ps z => by cases z)
  obtain ⟨e2, e3, e4⟩ := keys_rep hk r'
  refine ⟨hH, ks.zip (vs.map (·.2)), e3, ?_, ?_⟩
  · rw [List.length_zip, e2]
    exact Nat.le_trans (Nat.min_le_left _ _) hc.2
  · rw [merge_new hc.1 fun k _ => rfl, List.nil_append]
    have hn : p ∉ ι.hid := fun z => by
      obtain ⟨⟨u, hu⟩, _⟩ := M.hid p z
      rw [hp] at hu; cases hu
    obtain ⟨MA, SA⟩ := k1.adopt (u := .dK (ks.zip (vs.map (·.2)))) (o := .dK ks (ps.map (·.2))) hp ⟨vs.map (·.2), upd_same, by simpa using e2, k1.rep_mv e4⟩ hn
    exact h _ _ _ SA MA ⟨p, rfl, .inl (by show (ι'.at_ ++ [some p])[m1.length]? = _; rw [← M'.len]; simp)⟩
end

/-! ### list(range(..)) -/
section
variable {X : Cx} {W : WX} {e e2 : Expr} {fa fb : FE} {p p2 pos pos2 : Pos}
/-- the ends -/
def sR1 (fa : FE) : DS → Mem → ER (Int × Int) := fun δ m => (fa δ m).bind fun d m => match d with
  | .p (.int j) => .ok (0, j) m
  | _ => .bad
def rgOk (ab : Int × Int) : Bool := decide (-(2 ^ 62) ≤ ab.1 ∧ ab.1 < 2 ^ 62 ∧ -(2 ^ 62) ≤ ab.2 ∧ ab.2 < 2 ^ 62 ∧ (ab.2 - ab.1).toNat ≤ 16777216)
def sListR (fr : DS → Mem → ER (Int × Int)) : FE := fun δ m => (fr δ m).bind fun ab m => if rgOk ab = true then .ok (.p (.lst (upFrom ab.1 (ab.2 - ab.1).toNat))) m else .bad
def sListRM (fr : DS → Mem → ER (Int × Int)) : FE := fun δ m => (fr δ m).bind fun ab m => if rgOk ab = true then .ok (.ref m.length) (m ++ [some (.lst (upFrom ab.1 (ab.2 - ab.1).toNat))]) else .bad
theorem rep_rgV {G : Gx} {H : Hp} {ι : Io} (a b : Int) : RepL G H ι (upFrom a (b - a).toNat) (rgV a b) := by
  unfold upFrom rgV
  generalize List.range (b - a).toNat = l
  induction l with
  | nil => exact .nil
  | cons i l ih => exact .cons rep_int ih
theorem rgOk_ok {ab : Int × Int} (h : rgOk ab = true) : RgOk ab.1 ab.2 := by
  have := of_decide_eq_true h
  exact ⟨this.1, this.2.1, this.2.2.1, this.2.2.2.1, this.2.2.2.2⟩
theorem de_listR1 (hc : X.calm = true) (hm : X.mg "list" = none) (hm2 : X.mg "range" = none) (ha : DE X W e fa) (hg : Gl X "list" := by rfl) (hg2 : Gl X "range" := by rfl) (na : starEach [.Call (.Name "range" p2) [e] [] pos2] X.env = (false, eval (.Call (.Name "range" p2) [e] [] pos2) X.env) :: starEach [] X.env := by rfl) (na2 : starEach [e] X.env = (false, eval e X.env) :: starEach [] X.env := by rfl) :
    DE X W (.Call (.Name "list" p) [.Call (.Name "range" p2) [e] [] pos2] [] pos) (sListR (sR1 fa)) := (pe_listRg hc hg hm (prg_1 hg2 hm2 ha na2) na).conv fun σ H Q ⟨δ, m, ι, S, M, h⟩ => by
  unfold sListR sR1 at h
  refine ⟨δ, m, ι, S, M, ?_⟩
  cases q : fa δ m with
  | bad => rw [q] at h; exact h
  | ex x m1 => rw [q] at h; exact h
  | ok d m1 =>
    rw [q] at h
    intro v H1 ι1 s1 M1 r1
    have h1 := h.step s1
    simp only [ER.bind_ok] at h1
    cases d with
    | p x =>
      cases x with
      | int j =>
        simp only [RepD, Rep] at r1
        simp only [ER.bind_ok] at h1
        split at h1
        · rename_i ok
          exact ⟨j, r1, rgOk_ok ok, fun q hq => ERP.fin M1 h1 _ _ (Same.upd hq) (rep_lst hq (M1.fresh hq) (rep_rgV 0 j))⟩
        · exact h1.elim
      | _ => exact h1.elim
    | _ => exact h1.elim
theorem de_listR1M (hc : X.calm = true) (hm : X.mg "list" = none) (hm2 : X.mg "range" = none) (ha : DE X W e fa) (hg : Gl X "list" := by rfl) (hg2 : Gl X "range" := by rfl) (na : starEach [.Call (.Name "range" p2) [e] [] pos2] X.env = (false, eval (.Call (.Name "range" p2) [e] [] pos2) X.env) :: starEach [] X.env := by rfl) (na2 : starEach [e] X.env = (false, eval e X.env) :: starEach [] X.env := by rfl) :
    DE X W (.Call (.Name "list" p) [.Call (.Name "range" p2) [e] [] pos2] [] pos) (sListRM (sR1 fa)) := (pe_listRg hc hg hm (prg_1 hg2 hm2 ha na2) na).conv fun σ H Q ⟨δ, m, ι, S, M, h⟩ => by
  unfold sListRM sR1 at h
  refine ⟨δ, m, ι, S, M, ?_⟩
  cases q : fa δ m with
  | bad => rw [q] at h; exact h
  | ex x m1 => rw [q] at h; exact h
  | ok d m1 =>
    rw [q] at h
    intro v H1 ι1 s1 M1 r1
    have h1 := h.step s1
    simp only [ER.bind_ok] at h1
    cases d with
    | p x =>
      cases x with
      | int j =>
        simp only [RepD, Rep] at r1
        simp only [ER.bind_ok] at h1
        split at h1
        · rename_i ok
          exact ⟨j, r1, rgOk_ok ok, fun q hq => ERP.alloc (o := .lst _) M1 hq ⟨_, upd_same, rep_rgV 0 j⟩ h1⟩
        · exact h1.elim
      | _ => exact h1.elim
    | _ => exact h1.elim
end

/-! ### a < b < c as a test -/
section
variable {X : Cx} {W : WX} {a b c : Expr} {fa fb fc : FE} {pos : Pos}
theorem db_chain {op op' : CmpOp} {g g' : P → P → Option P} (ho : OpR X (compareOp op) (rP2 X g)) (ho' : OpR X (compareOp op') (rP2 X g')) (ha : DE X W a fa) (hb : DE X W b fb) (hc : DE X W c fc)
    (hm : lastMarks [op, op'] [b, c] = false := by with_unfolding_all rfl) : DB X W (.Compare a [op, op'] [b, c] pos) (sB (sChain g g' fa fb fc)) :=
  (pt_chain ho ho' ha hb hc hm).conv fun σ H Q ⟨δ, m, ι, S, M, h⟩ => chain_conv (W := W) σ H (fun x H1 => ∃ k, x = .bl k ∧ Q k H1)
    ⟨δ, m, ι, S, M, ERP.seq (rel := fun H ι => RepD (gx X) H ι) h fun z m3 w H3 ι3 _ s3 M3 r3 h3 => asB_rep M3 r3 h3⟩
end
end DL

set_option Elab.async false
set_option linter.all false
set_option maxRecDepth 100000
/-! The data layer, part q: the head's Hook. -/
namespace DL
open PySem PySem.Spec PyProof.Rows L2
abbrev AlZ : Type := He.AlD × Bool
def obsZ (n : Nat) (fa : List He.Fa) (fn : List He.DefD) (ex : PySem.W.Frag → Bool) (g : Addr → Option Obj) : AlZ := (He.obsD fa fn (He.frG g (He.asD g n)), ex (He.frG g (He.asD g n)))
def hookZ (n : Nat) (fa : List He.Fa) (fn : List He.DefD) (ex : PySem.W.Frag → Bool) : PySem.W.Hook where
  α := AlZ
  obs := fun s => obsZ n fa fn ex s.heap.get?
  val := fun _ => (He.valD fn, true)
  says := fun _ h => ∃ K : PySem.W.Frag, K.In h ∧ He.SaysD fa fn K ∧ ex K = true
  of := fun _ _ e => ⟨_, He.frG_in, congrArg (fun z : AlZ => z.1) e, congrArg (fun z : AlZ => z.2) e⟩
  keeps := fun _ _ _ ⟨K, hK, c⟩ k => ⟨K, PySem.W.Frag.In.keeps hK k, c⟩
theorem obsZ_eq {n : Nat} {fa : List He.Fa} {fn : List He.DefD} {ex : PySem.W.Frag → Bool} {g : Addr → Option Obj} {s : Shared} (h : ∀ a, g a = s.heap.get? a) : obsZ n fa fn ex g = (hookZ n fa fn ex).obs s := by
  have e : g = s.heap.get? := funext h
  rw [e] <;> rfl
theorem zf_of {fa : List He.Fa} {fn : List He.DefD} {ex : PySem.W.Frag → Bool} {K : PySem.W.Frag} {mg : Str → Option Value} {h : Heap} (X : K.In h) (G : h.Ns mainGlobals mg) (c : He.SaysD fa fn K) (e : ex K = true) : Zf fa fn ex K mg :=
  ⟨fun _ m => c.facts m, fun _ m => c.defs m, e, h, X, G⟩
end DL

set_option Elab.async false
set_option linter.all false
set_option maxRecDepth 100000
set_option maxHeartbeats 0
noncomputable section
namespace DL
open PySem PySem.Spec PyProof.Rows L2
def top (i : Nat) : Stmt := PySem.Challenge.pw_wakebook_k02_names_and_edges_of_houses.main.body.getD i (.Pass ⟨0, 0, 0, 0⟩)
def k_ASKS : P := .tup ((["calm", "held", "over", "rung", "unheld"] : List Str).map .str)
def k_DEEDS : P := .tup ((["give", "go", "hold", "hush"] : List Str).map .str)
def fa : List He.Fa := [.free "isinstance", .free "int", .free "bool", .glo "is_whole", .free "str", .free "len", .int "MOST_LETTERS" 8, .str "LETTERS" "abcdefghijklmnopqrstuvwxyz", .free "all", .glo "is_word", .free "tuple", .glo "is_tuple_of", .free "zip", .glo "is_ascending", .glo "is_stands", .glo "ASKS", .str "UNHELD" "unheld", .str "HELD" "held", .str "CALM" "calm", .glo "is_asks", .glo "DEEDS", .glo "is_edge", .int "MOST_EDGES" 24, .free "enumerate", .glo "need_edges", .glo "is_below", .int "MOST_STANDS" 6, .glo "need_kind", .glo "is_pair", .int "MOST_KINDS" 3, .glo "need_house", .glo "names_in", .glo "edges_in", .glo "names_of", .glo "edges_of", .glo "_law_begun", .glo "_law_draw", .free "repr", .glo "_law_like", .glo "_law_some", .free "list", .free "range", .glo "_law_order", .glo "_law_asks", .glo "_law_edge", .free "sorted", .glo "_law_book", .glo "_law_house", .glo "law"]
def fn : List He.DefD := [⟨("is_whole", none), "is_whole", "is_whole", defArgs (top 20), defBody (top 20), defScope (top 20), [], []⟩, ⟨("is_word", none), "is_word", "is_word", defArgs (top 21), defBody (top 21), defScope (top 21), [], []⟩, ⟨("is_tuple_of", none), "is_tuple_of", "is_tuple_of", defArgs (top 22), defBody (top 22), defScope (top 22), [], []⟩, ⟨("is_ascending", none), "is_ascending", "is_ascending", defArgs (top 23), defBody (top 23), defScope (top 23), [], []⟩, ⟨("is_stands", none), "is_stands", "is_stands", defArgs (top 24), defBody (top 24), defScope (top 24), [], []⟩, ⟨("is_asks", none), "is_asks", "is_asks", defArgs (top 25), defBody (top 25), defScope (top 25), [], []⟩, ⟨("is_edge", none), "is_edge", "is_edge", defArgs (top 26), defBody (top 26), defScope (top 26), [], []⟩, ⟨("need_edges", none), "need_edges", "need_edges", defArgs (top 27), defBody (top 27), defScope (top 27), [], []⟩, ⟨("is_below", none), "is_below", "is_below", defArgs (top 28), defBody (top 28), defScope (top 28), [], []⟩, ⟨("need_kind", none), "need_kind", "need_kind", defArgs (top 29), defBody (top 29), defScope (top 29), [], []⟩, ⟨("is_pair", none), "is_pair", "is_pair", defArgs (top 30), defBody (top 30), defScope (top 30), [], []⟩, ⟨("need_house", none), "need_house", "need_house", defArgs (top 31), defBody (top 31), defScope (top 31), [], []⟩, ⟨("names_in", none), "names_in", "names_in", defArgs (top 32), defBody (top 32), defScope (top 32), [], []⟩, ⟨("edges_in", none), "edges_in", "edges_in", defArgs (top 33), defBody (top 33), defScope (top 33), [], []⟩, ⟨("names_of", none), "names_of", "names_of", defArgs (top 34), defBody (top 34), defScope (top 34), [], []⟩, ⟨("edges_of", none), "edges_of", "edges_of", defArgs (top 35), defBody (top 35), defScope (top 35), [], []⟩, ⟨("_law_begun", none), "_law_begun", "_law_begun", defArgs (top 37), defBody (top 37), defScope (top 37), [], []⟩, ⟨("_law_draw", none), "_law_draw", "_law_draw", defArgs (top 38), defBody (top 38), defScope (top 38), [], []⟩, ⟨("_law_like", none), "_law_like", "_law_like", defArgs (top 39), defBody (top 39), defScope (top 39), [], []⟩, ⟨("_law_some", none), "_law_some", "_law_some", defArgs (top 40), defBody (top 40), defScope (top 40), [], []⟩, ⟨("_law_order", none), "_law_order", "_law_order", defArgs (top 41), defBody (top 41), defScope (top 41), [], []⟩, ⟨("_law_asks", none), "_law_asks", "_law_asks", defArgs (top 42), defBody (top 42), defScope (top 42), [], []⟩, ⟨("_law_edge", none), "_law_edge", "_law_edge", defArgs (top 43), defBody (top 43), defScope (top 43), [], []⟩, ⟨("_law_book", none), "_law_book", "_law_book", defArgs (top 44), defBody (top 44), defScope (top 44), [], []⟩, ⟨("_law_house", none), "_law_house", "_law_house", defArgs (top 45), defBody (top 45), defScope (top 45), [], []⟩, ⟨("law", none), "law", "law", defArgs (top 46), defBody (top 46), defScope (top 46), [], []⟩]
def ex (K : PySem.W.Frag) : Bool := noLists K && He.tupB K "ASKS" ((["calm", "held", "over", "rung", "unheld"] : List Str).map He.Dv.str) && He.tupB K "DEEDS" ((["give", "go", "hold", "hush"] : List Str).map He.Dv.str)
theorem ht_ASKS {K : PySem.W.Frag} (h : ex K = true) : He.tupB K "ASKS" ((["calm", "held", "over", "rung", "unheld"] : List Str).map He.Dv.str) = true := by
  unfold ex at h
  simp only [Bool.and_eq_true] at h
  exact h.1.2
theorem ht_DEEDS {K : PySem.W.Frag} (h : ex K = true) : He.tupB K "DEEDS" ((["give", "go", "hold", "hush"] : List Str).map He.Dv.str) = true := by
  unfold ex at h
  simp only [Bool.and_eq_true] at h
  exact h.2
section
variable {P : Program} {w : World} {K : PySem.W.Frag} {mg : Str → Option Value} {base : Heap}
abbrev n_is_whole : List Str := ["value", "least", "most"]
def b_is_whole : FS := (sRet (sAndV (sIs isInt (sName 0)) (sAndV (sNotV (sIs isBool (sName 0))) (sChain pLe pLe (sName 1) (sName 0) (sName 2)))))
def s_is_whole : List D → Mem → ER D := fnS n_is_whole 3 b_is_whole
theorem sc_is_whole : FnScope n_is_whole ["value", "least", "most"] (defScope (top 20)) := ⟨rfl, rfl, rfl, by decide +kernel, rfl, by decide +kernel, by decide +kernel⟩
theorem g_is_whole (Z : Zf fa fn ex K mg) : Callee P w K mg base 1 "is_whole" 3 s_is_whole := Z.dfn (ps := ["value", "least", "most"]) (k := 0) 0 3 rfl rfl rfl sc_is_whole (fun _ _ _ _ _ _ us hl => match us, hl with | [_, _, _], _ => rfl) fun f => by
  intro cdv A outer s H E hr hgd
  have hu := room_hu hr
  have hN : (n_is_whole : List Str).Nodup := sc_is_whole.nd
  have hp : PassesOwn (model P w) (A.deeper (envOfC "is_whole" (defScope (top 20)) s.heap.objs.size f cdv)) (envOfC "is_whole" (defScope (top 20)) s.heap.objs.size f cdv) (cxOf (L2.CX P w) P w K mg base n_is_whole "is_whole" (defScope (top 20)) f cdv A outer s H E).xe := passes_of (X := cxOf (L2.CX P w) P w K mg base n_is_whole "is_whole" (defScope (top 20)) f cdv A outer s H E) rfl
  have tk : Takes (cxOf (L2.CX P w) P w K mg base n_is_whole "is_whole" (defScope (top 20)) f cdv A outer s H E) (WZ E) := takes_of rfl rfl rfl rfl
  exact (dts_one (dt_ret (de_and (de_is tells_int (Z.fr 0) (Z.fr 1) (by decide +kernel) (de_name 0)) (de_and (de_not (de_is tells_bool (Z.fr 0) (Z.fr 2) (by decide +kernel) (de_name 0))) (de_one (de_chain (o_le hu) (o_le hu) (de_name 1) (de_name 0) (de_name 2)))))))
abbrev n_is_word : List Str := ["value", "letter"]
def b_is_word : FS := (sSeq (sIfS (sOrB (sNotB (sB (sIs isText (sName 0)))) (sNotB (sB (sChain pLe pLe (sC (.int 1)) (sCall gLen (sCons (sName 0) sNil)) (sC (.int 8)))))) (sRet (sC (.bl false))) sNx)
    (sRet (sCall gAll (sCons (sLc (sIt (sName 0)) (gN 1) sYes (sOp (pIn false) (sName 1) (sC (.str "abcdefghijklmnopqrstuvwxyz"))) [1]) sNil))))
def s_is_word : List D → Mem → ER D := fnS n_is_word 1 b_is_word
theorem sc_is_word : FnScope n_is_word ["value"] (defScope (top 21)) := ⟨rfl, rfl, rfl, by decide +kernel, rfl, by decide +kernel, by decide +kernel⟩
theorem g_is_word (Z : Zf fa fn ex K mg) : Callee P w K mg base 1 "is_word" 1 s_is_word := Z.dfn (ps := ["value"]) (k := 0) 1 9 rfl rfl rfl sc_is_word (fun _ _ _ _ _ _ us hl => match us, hl with | [_], _ => rfl) fun f => by
  intro cdv A outer s H E hr hgd
  have hu := room_hu hr
  have hN : (n_is_word : List Str).Nodup := sc_is_word.nd
  have hp : PassesOwn (model P w) (A.deeper (envOfC "is_word" (defScope (top 21)) s.heap.objs.size f cdv)) (envOfC "is_word" (defScope (top 21)) s.heap.objs.size f cdv) (cxOf (L2.CX P w) P w K mg base n_is_word "is_word" (defScope (top 21)) f cdv A outer s H E).xe := passes_of (X := cxOf (L2.CX P w) P w K mg base n_is_word "is_word" (defScope (top 21)) f cdv A outer s H E) rfl
  have tk : Takes (cxOf (L2.CX P w) P w K mg base n_is_word "is_word" (defScope (top 21)) f cdv A outer s H E) (WZ E) := takes_of rfl rfl rfl rfl
  exact (dts_cons (dt_if (db_w (dw_or (db_not (db_val (de_is tells_str (Z.fr 0) (Z.fr 4) (by decide +kernel) (de_name 0)))) (dw_or1 (db_not (db_chain (o_le hu) (o_le hu) de_int (de_callB c_len (Z.fr 5) (by decide +kernel) (da_cons (de_name 0) da_nil)) (de_glob (Z.int 6))))))) (dts_one (dt_ret de_bl)) dts_nil)
    (dts_one (dt_ret (de_callB (c_all rfl) (Z.fr 8) (by decide +kernel) (da_cons (de_lc (own := [("letter", 1)]) rfl hN (di_any (de_name 0)) (blkOk_by (own := [("letter", 1)]) (by kernel_rfl)) (fun _ _ _ _ _ => (dg_name hN (i := 1))) (fun _ _ _ _ _ => dbs_nil) (fun _ _ _ _ _ => (de_cmp (o_in hu) (de_name 1) (de_glob (Z.str 7))))) da_nil)))))
abbrev n_is_tuple_of : List Str := ["value", "many"]
def b_is_tuple_of : FS := (sRet (sAndV (sIs isTup (sName 0)) (sOp pEq (sCall gLen (sCons (sName 0) sNil)) (sName 1))))
def s_is_tuple_of : List D → Mem → ER D := fnS n_is_tuple_of 2 b_is_tuple_of
theorem sc_is_tuple_of : FnScope n_is_tuple_of ["value", "many"] (defScope (top 22)) := ⟨rfl, rfl, rfl, by decide +kernel, rfl, by decide +kernel, by decide +kernel⟩
theorem g_is_tuple_of (Z : Zf fa fn ex K mg) : Callee P w K mg base 1 "is_tuple_of" 2 s_is_tuple_of := Z.dfn (ps := ["value", "many"]) (k := 0) 2 11 rfl rfl rfl sc_is_tuple_of (fun _ _ _ _ _ _ us hl => match us, hl with | [_, _], _ => rfl) fun f => by
  intro cdv A outer s H E hr hgd
  have hu := room_hu hr
  have hN : (n_is_tuple_of : List Str).Nodup := sc_is_tuple_of.nd
  have hp : PassesOwn (model P w) (A.deeper (envOfC "is_tuple_of" (defScope (top 22)) s.heap.objs.size f cdv)) (envOfC "is_tuple_of" (defScope (top 22)) s.heap.objs.size f cdv) (cxOf (L2.CX P w) P w K mg base n_is_tuple_of "is_tuple_of" (defScope (top 22)) f cdv A outer s H E).xe := passes_of (X := cxOf (L2.CX P w) P w K mg base n_is_tuple_of "is_tuple_of" (defScope (top 22)) f cdv A outer s H E) rfl
  have tk : Takes (cxOf (L2.CX P w) P w K mg base n_is_tuple_of "is_tuple_of" (defScope (top 22)) f cdv A outer s H E) (WZ E) := takes_of rfl rfl rfl rfl
  exact (dts_one (dt_ret (de_and (de_is tells_tuple (Z.fr 0) (Z.fr 10) (by decide +kernel) (de_name 0)) (de_one (de_cmp (o_eq hu) (de_callB c_len (Z.fr 5) (by decide +kernel) (da_cons (de_name 0) da_nil)) (de_name 1))))))
abbrev n_is_ascending : List Str := ["value", "one", "other"]
def b_is_ascending : FS := (sRet (sCall gAll (sCons (sLc (sItZ (sCons (sName 0) (sCons (sSl (sName 0) (sPart (sC (.int 1))) sNoPart) sNil))) (gT 2 (gsC (gN 1) (gsC (gN 2) gsN))) sYes (sOp pLt (sName 1) (sName 2)) [1, 2]) sNil)))
def s_is_ascending : List D → Mem → ER D := fnS n_is_ascending 1 b_is_ascending
theorem sc_is_ascending : FnScope n_is_ascending ["value"] (defScope (top 23)) := ⟨rfl, rfl, rfl, by decide +kernel, rfl, by decide +kernel, by decide +kernel⟩
theorem g_is_ascending (Z : Zf fa fn ex K mg) : Callee P w K mg base 1 "is_ascending" 1 s_is_ascending := Z.dfn (ps := ["value"]) (k := 0) 3 13 rfl rfl rfl sc_is_ascending (fun _ _ _ _ _ _ us hl => match us, hl with | [_], _ => rfl) fun f => by
  intro cdv A outer s H E hr hgd
  have hu := room_hu hr
  have hN : (n_is_ascending : List Str).Nodup := sc_is_ascending.nd
  have hp : PassesOwn (model P w) (A.deeper (envOfC "is_ascending" (defScope (top 23)) s.heap.objs.size f cdv)) (envOfC "is_ascending" (defScope (top 23)) s.heap.objs.size f cdv) (cxOf (L2.CX P w) P w K mg base n_is_ascending "is_ascending" (defScope (top 23)) f cdv A outer s H E).xe := passes_of (X := cxOf (L2.CX P w) P w K mg base n_is_ascending "is_ascending" (defScope (top 23)) f cdv A outer s H E) rfl
  have tk : Takes (cxOf (L2.CX P w) P w K mg base n_is_ascending "is_ascending" (defScope (top 23)) f cdv A outer s H E) (WZ E) := takes_of rfl rfl rfl rfl
  exact (dts_one (dt_ret (de_callB (c_all rfl) (Z.fr 8) (by decide +kernel) (da_cons (de_lc (own := [("one", 1), ("other", 2)]) rfl hN (di_zip (Z.fr 12) (da_cons (de_name 0) (da_cons (de_sl (de_name 0) (do_some de_int) do_none) da_nil))) (blkOk_by (own := [("one", 1), ("other", 2)]) (by kernel_rfl)) (fun _ _ _ _ _ => (dg_tup rfl (dgs_cons (dg_name hN (i := 1)) (dgs_cons (dg_name hN (i := 2)) dgs_nil)))) (fun _ _ _ _ _ => dbs_nil) (fun _ _ _ _ _ => (de_cmp (o_lt hu) (de_name 1) (de_name 2)))) da_nil))))
abbrev n_is_stands : List Str := ["value", "first", "stands", "stand"]
def b_is_stands : FS := (sSeq (sIfS (sOrB (sNotB (sB (sIs isTup (sName 0)))) (sNotB (sB (sCall gAll (sCons (sLc (sIt (sName 0)) (gN 3) sYes (sFn s_is_whole (sCons (sName 3) (sCons (sName 1) (sCons (sOp pSub (sName 2) (sC (.int 1))) sNil)))) [3]) sNil))))) (sRet (sC (.bl false))) sNx)
    (sRet (sFn s_is_ascending (sCons (sName 0) sNil))))
def s_is_stands : List D → Mem → ER D := fnS n_is_stands 3 b_is_stands
theorem sc_is_stands : FnScope n_is_stands ["value", "first", "stands"] (defScope (top 24)) := ⟨rfl, rfl, rfl, by decide +kernel, rfl, by decide +kernel, by decide +kernel⟩
theorem g_is_stands (Z : Zf fa fn ex K mg) : Callee P w K mg base 2 "is_stands" 3 s_is_stands := Z.dfn (ps := ["value", "first", "stands"]) (k := 1) 4 14 rfl rfl rfl sc_is_stands (fun _ _ _ _ _ _ us hl => match us, hl with | [_, _, _], _ => rfl) fun f => by
  intro cdv A outer s H E hr hgd
  have hu := room_hu hr
  have hN : (n_is_stands : List Str).Nodup := sc_is_stands.nd
  have hp : PassesOwn (model P w) (A.deeper (envOfC "is_stands" (defScope (top 24)) s.heap.objs.size f cdv)) (envOfC "is_stands" (defScope (top 24)) s.heap.objs.size f cdv) (cxOf (L2.CX P w) P w K mg base n_is_stands "is_stands" (defScope (top 24)) f cdv A outer s H E).xe := passes_of (X := cxOf (L2.CX P w) P w K mg base n_is_stands "is_stands" (defScope (top 24)) f cdv A outer s H E) rfl
  have tk : Takes (cxOf (L2.CX P w) P w K mg base n_is_stands "is_stands" (defScope (top 24)) f cdv A outer s H E) (WZ E) := takes_of rfl rfl rfl rfl
  exact (dts_cons (dt_if (db_w (dw_or (db_not (db_val (de_is tells_tuple (Z.fr 0) (Z.fr 10) (by decide +kernel) (de_name 0)))) (dw_or1 (db_not (db_val (de_callB (c_all rfl) (Z.fr 8) (by decide +kernel) (da_cons (de_lc (own := [("stand", 3)]) rfl hN (di_any (de_name 0)) (blkOk_by (own := [("stand", 3)]) (by kernel_rfl)) (fun _ _ _ _ _ => (dg_name hN (i := 3))) (fun _ _ _ _ _ => dbs_nil) (fun _ _ _ _ _ => (de_fn (g_is_whole Z) (hr.mono (by decide)) hgd takes0 (da_cons (de_name 3) (da_cons (de_name 1) (da_cons (de_op o_sub (de_name 2) de_int) da_nil)))))) da_nil))))))) (dts_one (dt_ret de_bl)) dts_nil)
    (dts_one (dt_ret (de_fn (g_is_ascending Z) (hr.mono (by decide)) hgd tk (da_cons (de_name 0) da_nil)))))
abbrev n_is_asks : List Str := ["value", "ask"]
def b_is_asks : FS := (sSeq (sIfS (sOrB (sNotB (sB (sIs isTup (sName 0)))) (sNotB (sB (sCall gAll (sCons (sLc (sIt (sName 0)) (gN 1) sYes (sAndV (sIs isText (sName 1)) (sOp (pIn false) (sName 1) (sC k_ASKS))) [1]) sNil))))) (sRet (sC (.bl false))) sNx)
    (sRet (sAndV (sFn s_is_ascending (sCons (sName 0) sNil)) (sOp pLt (sCall gLen (sCons (sLc (sIt (sName 0)) (gN 1) (sB (sOp (pIn false) (sName 1) (sTup (sCons (sC (.str "calm")) (sCons (sC (.str "held")) (sCons (sC (.str "unheld")) sNil)))))) (sName 1) [1]) sNil)) (sC (.int 2))))))
def s_is_asks : List D → Mem → ER D := fnS n_is_asks 1 b_is_asks
theorem sc_is_asks : FnScope n_is_asks ["value"] (defScope (top 25)) := ⟨rfl, rfl, rfl, by decide +kernel, rfl, by decide +kernel, by decide +kernel⟩
theorem g_is_asks (Z : Zf fa fn ex K mg) : Callee P w K mg base 2 "is_asks" 1 s_is_asks := Z.dfn (ps := ["value"]) (k := 1) 5 19 rfl rfl rfl sc_is_asks (fun _ _ _ _ _ _ us hl => match us, hl with | [_], _ => rfl) fun f => by
  intro cdv A outer s H E hr hgd
  have hu := room_hu hr
  have hN : (n_is_asks : List Str).Nodup := sc_is_asks.nd
  have hp : PassesOwn (model P w) (A.deeper (envOfC "is_asks" (defScope (top 25)) s.heap.objs.size f cdv)) (envOfC "is_asks" (defScope (top 25)) s.heap.objs.size f cdv) (cxOf (L2.CX P w) P w K mg base n_is_asks "is_asks" (defScope (top 25)) f cdv A outer s H E).xe := passes_of (X := cxOf (L2.CX P w) P w K mg base n_is_asks "is_asks" (defScope (top 25)) f cdv A outer s H E) rfl
  have tk : Takes (cxOf (L2.CX P w) P w K mg base n_is_asks "is_asks" (defScope (top 25)) f cdv A outer s H E) (WZ E) := takes_of rfl rfl rfl rfl
  exact (dts_cons (dt_if (db_w (dw_or (db_not (db_val (de_is tells_tuple (Z.fr 0) (Z.fr 10) (by decide +kernel) (de_name 0)))) (dw_or1 (db_not (db_val (de_callB (c_all rfl) (Z.fr 8) (by decide +kernel) (da_cons (de_lc (own := [("ask", 1)]) rfl hN (di_any (de_name 0)) (blkOk_by (own := [("ask", 1)]) (by kernel_rfl)) (fun _ _ _ _ _ => (dg_name hN (i := 1))) (fun _ _ _ _ _ => dbs_nil) (fun _ _ _ _ _ => (de_and (de_is tells_str (Z.fr 0) (Z.fr 4) (by decide +kernel) (de_name 1)) (de_one (de_cmp (o_in hu) (de_name 1) (de_glob (Z.strs 15 (ht_ASKS Z.ex)))))))) da_nil))))))) (dts_one (dt_ret de_bl)) dts_nil)
    (dts_one (dt_ret (de_and (de_fn (g_is_ascending Z) (hr.mono (by decide)) hgd tk (da_cons (de_name 0) da_nil)) (de_one (de_cmp (o_lt hu) (de_callB c_len (Z.fr 5) (by decide +kernel) (da_cons (de_lc (own := [("ask", 1)]) rfl hN (di_any (de_name 0)) (blkOk_by (own := [("ask", 1)]) (by kernel_rfl)) (fun _ _ _ _ _ => (dg_name hN (i := 1))) (fun _ _ _ _ _ => (dbs_one (db_cmp (o_in hu) (de_name 1) (de_tup (da_cons (de_glob (Z.str 18)) (da_cons (de_glob (Z.str 17)) (da_cons (de_glob (Z.str 16)) da_nil))))))) (fun _ _ _ _ _ => (de_name 1))) da_nil)) de_int))))))
abbrev n_is_edge : List Str := ["value", "stands"]
def b_is_edge : FS := (sSeq (sIfS (sOrB (sNotB (sB (sFn s_is_tuple_of (sCons (sName 0) (sCons (sC (.int 4)) sNil))))) (sOrB (sNotB (sB (sFn s_is_asks (sCons (sOp pIx (sName 0) (sC (.int 1))) sNil)))) (sNotB (sB (sIs isText (sOp pIx (sName 0) (sC (.int 2)))))))) (sRet (sC (.bl false))) sNx)
    (sRet (sAndV (sOp (pIn false) (sOp pIx (sName 0) (sC (.int 2))) (sC k_DEEDS)) (sAndV (sFn s_is_whole (sCons (sOp pIx (sName 0) (sC (.int 0))) (sCons (sC (.int 0)) (sCons (sOp pSub (sName 1) (sC (.int 1))) sNil)))) (sFn s_is_whole (sCons (sOp pIx (sName 0) (sC (.int 3))) (sCons (sC (.int 0)) (sCons (sOp pSub (sName 1) (sC (.int 1))) sNil))))))))
def s_is_edge : List D → Mem → ER D := fnS n_is_edge 2 b_is_edge
theorem sc_is_edge : FnScope n_is_edge ["value", "stands"] (defScope (top 26)) := ⟨rfl, rfl, rfl, by decide +kernel, rfl, by decide +kernel, by decide +kernel⟩
theorem g_is_edge (Z : Zf fa fn ex K mg) : Callee P w K mg base 3 "is_edge" 2 s_is_edge := Z.dfn (ps := ["value", "stands"]) (k := 2) 6 21 rfl rfl rfl sc_is_edge (fun _ _ _ _ _ _ us hl => match us, hl with | [_, _], _ => rfl) fun f => by
  intro cdv A outer s H E hr hgd
  have hu := room_hu hr
  have hN : (n_is_edge : List Str).Nodup := sc_is_edge.nd
  have hp : PassesOwn (model P w) (A.deeper (envOfC "is_edge" (defScope (top 26)) s.heap.objs.size f cdv)) (envOfC "is_edge" (defScope (top 26)) s.heap.objs.size f cdv) (cxOf (L2.CX P w) P w K mg base n_is_edge "is_edge" (defScope (top 26)) f cdv A outer s H E).xe := passes_of (X := cxOf (L2.CX P w) P w K mg base n_is_edge "is_edge" (defScope (top 26)) f cdv A outer s H E) rfl
  have tk : Takes (cxOf (L2.CX P w) P w K mg base n_is_edge "is_edge" (defScope (top 26)) f cdv A outer s H E) (WZ E) := takes_of rfl rfl rfl rfl
  exact (dts_cons (dt_if (db_w (dw_or (db_not (db_val (de_fn (g_is_tuple_of Z) (hr.mono (by decide)) hgd tk (da_cons (de_name 0) (da_cons de_int da_nil))))) (dw_or (db_not (db_val (de_fn (g_is_asks Z) (hr.mono (by decide)) hgd tk (da_cons (de_ix hu (de_name 0) de_int) da_nil)))) (dw_or1 (db_not (db_val (de_is tells_str (Z.fr 0) (Z.fr 4) (by decide +kernel) (de_ix hu (de_name 0) de_int)))))))) (dts_one (dt_ret de_bl)) dts_nil)
    (dts_one (dt_ret (de_and (de_cmp (o_in hu) (de_ix hu (de_name 0) de_int) (de_glob (Z.strs 20 (ht_DEEDS Z.ex)))) (de_and (de_fn (g_is_whole Z) (hr.mono (by decide)) hgd tk (da_cons (de_ix hu (de_name 0) de_int) (da_cons de_int (da_cons (de_op o_sub (de_name 1) de_int) da_nil)))) (de_one (de_fn (g_is_whole Z) (hr.mono (by decide)) hgd tk (da_cons (de_ix hu (de_name 0) de_int) (da_cons de_int (da_cons (de_op o_sub (de_name 1) de_int) da_nil))))))))))
abbrev n_need_edges : List Str := ["number", "stands", "edges", "place", "edge"]
def b_need_edges : FS := (sSeq (sIfS (sOrB (sNotB (sB (sIs isTup (sName 2)))) (sB (sOp pGt (sCall gLen (sCons (sName 2) sNil)) (sC (.int 24))))) sBad sNx)
    (sFor (sItE (sCons (sName 2) sNil)) (gT 2 (gsC (gN 3) (gsC (gN 4) gsN))) (sIfS (sOrB (sNotB (sB (sFn s_is_edge (sCons (sName 4) (sCons (sName 1) sNil))))) (sAndB (sB (sOp pGt (sName 3) (sC (.int 0)))) (sNotB (sB (sOp pLt (sOp pIx (sName 2) (sOp pSub (sName 3) (sC (.int 1)))) (sName 4)))))) sBad sNx)))
def s_need_edges : List D → Mem → ER D := fnS n_need_edges 3 b_need_edges
theorem sc_need_edges : FnScope n_need_edges ["number", "stands", "edges"] (defScope (top 27)) := ⟨rfl, rfl, rfl, by decide +kernel, rfl, by decide +kernel, by decide +kernel⟩
theorem g_need_edges (Z : Zf fa fn ex K mg) : Callee P w K mg base 4 "need_edges" 3 s_need_edges := Z.dfn (ps := ["number", "stands", "edges"]) (k := 3) 7 24 rfl rfl rfl sc_need_edges (fun _ _ _ _ _ _ us hl => match us, hl with | [_, _, _], _ => rfl) fun f => by
  intro cdv A outer s H E hr hgd
  have hu := room_hu hr
  have hN : (n_need_edges : List Str).Nodup := sc_need_edges.nd
  have hp : PassesOwn (model P w) (A.deeper (envOfC "need_edges" (defScope (top 27)) s.heap.objs.size f cdv)) (envOfC "need_edges" (defScope (top 27)) s.heap.objs.size f cdv) (cxOf (L2.CX P w) P w K mg base n_need_edges "need_edges" (defScope (top 27)) f cdv A outer s H E).xe := passes_of (X := cxOf (L2.CX P w) P w K mg base n_need_edges "need_edges" (defScope (top 27)) f cdv A outer s H E) rfl
  have tk : Takes (cxOf (L2.CX P w) P w K mg base n_need_edges "need_edges" (defScope (top 27)) f cdv A outer s H E) (WZ E) := takes_of rfl rfl rfl rfl
  exact (dts_cons (dt_if (db_w (dw_or (db_not (db_val (de_is tells_tuple (Z.fr 0) (Z.fr 10) (by decide +kernel) (de_name 2)))) (dw_or1 (db_cmp o_gt (de_callB c_len (Z.fr 5) (by decide +kernel) (da_cons (de_name 2) da_nil)) (de_glob (Z.int 22)))))) (dts_one dt_never) dts_nil)
    (dts_one (dt_for hp rfl (di_enum (Z.fr 23) (da_cons (de_name 2) da_nil)) (dg_tup rfl (dgs_cons (dg_name hN (i := 3)) (dgs_cons (dg_name hN (i := 4)) dgs_nil))) (dts_one (dt_if (db_w (dw_or (db_not (db_val (de_fn (g_is_edge Z) (hr.mono (by decide)) hgd tk (da_cons (de_name 4) (da_cons (de_name 1) da_nil))))) (dw_or1 (db_w (dw_and (db_cmp o_gt (de_name 3) de_int) (dw_and1 (db_not (db_cmp (o_lt hu) (de_ix hu (de_name 2) (de_op o_sub (de_name 3) de_int)) (de_name 4))))))))) (dts_one dt_never) dts_nil)))))
abbrev n_is_below : List Str := ["value", "names", "name"]
def b_is_below : FS := (sSeq (sIfS (sOrB (sNotB (sB (sIs isTup (sName 0)))) (sNotB (sB (sCall gAll (sCons (sLc (sIt (sName 0)) (gN 2) sYes (sAndV (sIs isText (sName 2)) (sOp (pIn false) (sName 2) (sName 1))) [2]) sNil))))) (sRet (sC (.bl false))) sNx)
    (sRet (sFn s_is_ascending (sCons (sName 0) sNil))))
def s_is_below : List D → Mem → ER D := fnS n_is_below 2 b_is_below
theorem sc_is_below : FnScope n_is_below ["value", "names"] (defScope (top 28)) := ⟨rfl, rfl, rfl, by decide +kernel, rfl, by decide +kernel, by decide +kernel⟩
theorem g_is_below (Z : Zf fa fn ex K mg) : Callee P w K mg base 2 "is_below" 2 s_is_below := Z.dfn (ps := ["value", "names"]) (k := 1) 8 25 rfl rfl rfl sc_is_below (fun _ _ _ _ _ _ us hl => match us, hl with | [_, _], _ => rfl) fun f => by
  intro cdv A outer s H E hr hgd
  have hu := room_hu hr
  have hN : (n_is_below : List Str).Nodup := sc_is_below.nd
  have hp : PassesOwn (model P w) (A.deeper (envOfC "is_below" (defScope (top 28)) s.heap.objs.size f cdv)) (envOfC "is_below" (defScope (top 28)) s.heap.objs.size f cdv) (cxOf (L2.CX P w) P w K mg base n_is_below "is_below" (defScope (top 28)) f cdv A outer s H E).xe := passes_of (X := cxOf (L2.CX P w) P w K mg base n_is_below "is_below" (defScope (top 28)) f cdv A outer s H E) rfl
  have tk : Takes (cxOf (L2.CX P w) P w K mg base n_is_below "is_below" (defScope (top 28)) f cdv A outer s H E) (WZ E) := takes_of rfl rfl rfl rfl
  exact (dts_cons (dt_if (db_w (dw_or (db_not (db_val (de_is tells_tuple (Z.fr 0) (Z.fr 10) (by decide +kernel) (de_name 0)))) (dw_or1 (db_not (db_val (de_callB (c_all rfl) (Z.fr 8) (by decide +kernel) (da_cons (de_lc (own := [("name", 2)]) rfl hN (di_any (de_name 0)) (blkOk_by (own := [("name", 2)]) (by kernel_rfl)) (fun _ _ _ _ _ => (dg_name hN (i := 2))) (fun _ _ _ _ _ => dbs_nil) (fun _ _ _ _ _ => (de_and (de_is tells_str (Z.fr 0) (Z.fr 4) (by decide +kernel) (de_name 2)) (de_one (de_cmp (o_in hu) (de_name 2) (de_name 1)))))) da_nil))))))) (dts_one (dt_ret de_bl)) dts_nil)
    (dts_one (dt_ret (de_fn (g_is_ascending Z) (hr.mono (by decide)) hgd tk (da_cons (de_name 0) da_nil)))))
abbrev n_need_kind : List Str := ["number", "kind", "names", "below", "stands", "up", "deaf", "edges"]
def b_need_kind : FS := (sSeq (sAsgG (sName 1) (gT 2 (gsC (gT 4 (gsC (gN 4) (gsC (gN 5) (gsC (gN 6) (gsC (gN 7) gsN))))) (gsC (gN 3) gsN))))
    (sSeq (sIfS (sNotB (sB (sFn s_is_whole (sCons (sName 4) (sCons (sC (.int 1)) (sCons (sC (.int 6)) sNil)))))) sBad sNx)
    (sSeq (sIfS (sNotB (sB (sFn s_is_stands (sCons (sName 5) (sCons (sC (.int 1)) (sCons (sName 4) sNil)))))) sBad sNx)
    (sSeq (sIfS (sNotB (sB (sFn s_is_stands (sCons (sName 6) (sCons (sC (.int 0)) (sCons (sName 4) sNil)))))) sBad sNx)
    (sSeq (sDrop (sFn s_need_edges (sCons (sName 0) (sCons (sName 4) (sCons (sName 7) sNil)))))
    (sIfS (sNotB (sB (sFn s_is_below (sCons (sName 3) (sCons (sName 2) sNil))))) sBad sNx))))))
def s_need_kind : List D → Mem → ER D := fnS n_need_kind 3 b_need_kind
theorem sc_need_kind : FnScope n_need_kind ["number", "kind", "names"] (defScope (top 29)) := ⟨rfl, rfl, rfl, by decide +kernel, rfl, by decide +kernel, by decide +kernel⟩
theorem g_need_kind (Z : Zf fa fn ex K mg) : Callee P w K mg base 5 "need_kind" 3 s_need_kind := Z.dfn (ps := ["number", "kind", "names"]) (k := 4) 9 27 rfl rfl rfl sc_need_kind (fun _ _ _ _ _ _ us hl => match us, hl with | [_, _, _], _ => rfl) fun f => by
  intro cdv A outer s H E hr hgd
  have hu := room_hu hr
  have hN : (n_need_kind : List Str).Nodup := sc_need_kind.nd
  have hp : PassesOwn (model P w) (A.deeper (envOfC "need_kind" (defScope (top 29)) s.heap.objs.size f cdv)) (envOfC "need_kind" (defScope (top 29)) s.heap.objs.size f cdv) (cxOf (L2.CX P w) P w K mg base n_need_kind "need_kind" (defScope (top 29)) f cdv A outer s H E).xe := passes_of (X := cxOf (L2.CX P w) P w K mg base n_need_kind "need_kind" (defScope (top 29)) f cdv A outer s H E) rfl
  have tk : Takes (cxOf (L2.CX P w) P w K mg base n_need_kind "need_kind" (defScope (top 29)) f cdv A outer s H E) (WZ E) := takes_of rfl rfl rfl rfl
  exact (dts_cons (dt_asg (de_name 1) (dg_tup rfl (dgs_cons (dg_tup rfl (dgs_cons (dg_name hN (i := 4)) (dgs_cons (dg_name hN (i := 5)) (dgs_cons (dg_name hN (i := 6)) (dgs_cons (dg_name hN (i := 7)) dgs_nil))))) (dgs_cons (dg_name hN (i := 3)) dgs_nil))))
    (dts_cons (dt_if (db_not (db_val (de_fn (g_is_whole Z) (hr.mono (by decide)) hgd tk (da_cons (de_name 4) (da_cons de_int (da_cons (de_glob (Z.int 26)) da_nil)))))) (dts_one dt_never) dts_nil)
    (dts_cons (dt_if (db_not (db_val (de_fn (g_is_stands Z) (hr.mono (by decide)) hgd tk (da_cons (de_name 5) (da_cons de_int (da_cons (de_name 4) da_nil)))))) (dts_one dt_never) dts_nil)
    (dts_cons (dt_if (db_not (db_val (de_fn (g_is_stands Z) (hr.mono (by decide)) hgd tk (da_cons (de_name 6) (da_cons de_int (da_cons (de_name 4) da_nil)))))) (dts_one dt_never) dts_nil)
    (dts_cons (dt_expr (de_fn (g_need_edges Z) (hr.mono (by decide)) hgd tk (da_cons (de_name 0) (da_cons (de_name 4) (da_cons (de_name 7) da_nil)))))
    (dts_one (dt_if (db_not (db_val (de_fn (g_is_below Z) (hr.mono (by decide)) hgd tk (da_cons (de_name 3) (da_cons (de_name 2) da_nil))))) (dts_one dt_never) dts_nil)))))))
abbrev n_is_pair : List Str := ["item"]
def b_is_pair : FS := (sSeq (sIfS (sOrB (sNotB (sB (sFn s_is_tuple_of (sCons (sName 0) (sCons (sC (.int 2)) sNil))))) (sOrB (sNotB (sB (sFn s_is_word (sCons (sOp pIx (sName 0) (sC (.int 0))) sNil)))) (sNotB (sB (sFn s_is_tuple_of (sCons (sOp pIx (sName 0) (sC (.int 1))) (sCons (sC (.int 2)) sNil))))))) (sRet (sC (.bl false))) sNx)
    (sRet (sFn s_is_tuple_of (sCons (sOp pIx (sOp pIx (sName 0) (sC (.int 1))) (sC (.int 0))) (sCons (sC (.int 4)) sNil)))))
def s_is_pair : List D → Mem → ER D := fnS n_is_pair 1 b_is_pair
theorem sc_is_pair : FnScope n_is_pair ["item"] (defScope (top 30)) := ⟨rfl, rfl, rfl, by decide +kernel, rfl, by decide +kernel, by decide +kernel⟩
theorem g_is_pair (Z : Zf fa fn ex K mg) : Callee P w K mg base 2 "is_pair" 1 s_is_pair := Z.dfn (ps := ["item"]) (k := 1) 10 28 rfl rfl rfl sc_is_pair (fun _ _ _ _ _ _ us hl => match us, hl with | [_], _ => rfl) fun f => by
  intro cdv A outer s H E hr hgd
  have hu := room_hu hr
  have hN : (n_is_pair : List Str).Nodup := sc_is_pair.nd
  have hp : PassesOwn (model P w) (A.deeper (envOfC "is_pair" (defScope (top 30)) s.heap.objs.size f cdv)) (envOfC "is_pair" (defScope (top 30)) s.heap.objs.size f cdv) (cxOf (L2.CX P w) P w K mg base n_is_pair "is_pair" (defScope (top 30)) f cdv A outer s H E).xe := passes_of (X := cxOf (L2.CX P w) P w K mg base n_is_pair "is_pair" (defScope (top 30)) f cdv A outer s H E) rfl
  have tk : Takes (cxOf (L2.CX P w) P w K mg base n_is_pair "is_pair" (defScope (top 30)) f cdv A outer s H E) (WZ E) := takes_of rfl rfl rfl rfl
  exact (dts_cons (dt_if (db_w (dw_or (db_not (db_val (de_fn (g_is_tuple_of Z) (hr.mono (by decide)) hgd tk (da_cons (de_name 0) (da_cons de_int da_nil))))) (dw_or (db_not (db_val (de_fn (g_is_word Z) (hr.mono (by decide)) hgd tk (da_cons (de_ix hu (de_name 0) de_int) da_nil)))) (dw_or1 (db_not (db_val (de_fn (g_is_tuple_of Z) (hr.mono (by decide)) hgd tk (da_cons (de_ix hu (de_name 0) de_int) (da_cons de_int da_nil))))))))) (dts_one (dt_ret de_bl)) dts_nil)
    (dts_one (dt_ret (de_fn (g_is_tuple_of Z) (hr.mono (by decide)) hgd tk (da_cons (de_ix hu (de_ix hu (de_name 0) de_int) de_int) (da_cons de_int da_nil))))))
abbrev n_need_house : List Str := ["house", "names", "number", "item", "name", "kind"]
def b_need_house : FS := (sSeq (sIfS (sOrB (sNotB (sB (sIs isTup (sName 0)))) (sNotB (sB (sChain pLe pLe (sC (.int 1)) (sCall gLen (sCons (sName 0) sNil)) (sC (.int 3)))))) sBad sNx)
    (sSeq (sFor (sItE (sCons (sName 0) sNil)) (gT 2 (gsC (gN 2) (gsC (gN 3) gsN))) (sIfS (sOrB (sNotB (sB (sFn s_is_pair (sCons (sName 3) sNil)))) (sAndB (sB (sOp pGt (sName 2) (sC (.int 0)))) (sNotB (sB (sOp pLt (sOp pIx (sOp pIx (sName 0) (sOp pSub (sName 2) (sC (.int 1)))) (sC (.int 0))) (sOp pIx (sName 3) (sC (.int 0)))))))) sBad sNx))
    (sSeq (sAsgN (sLc (sIt (sName 0)) (gT 2 (gsC (gN 4) (gsC (gN 5) gsN))) sYes (sName 4) [4, 5]) 1)
    (sSeq (sFor (sItE (sCons (sName 0) sNil)) (gT 2 (gsC (gN 2) (gsC (gT 2 (gsC (gN 4) (gsC (gN 5) gsN))) gsN))) (sDrop (sFn s_need_kind (sCons (sName 2) (sCons (sName 5) (sCons (sName 1) sNil))))))
    (sRet (sName 0))))))
def s_need_house : List D → Mem → ER D := fnS n_need_house 1 b_need_house
theorem sc_need_house : FnScope n_need_house ["house"] (defScope (top 31)) := ⟨rfl, rfl, rfl, by decide +kernel, rfl, by decide +kernel, by decide +kernel⟩
theorem g_need_house (Z : Zf fa fn ex K mg) : Callee P w K mg base 6 "need_house" 1 s_need_house := Z.dfn (ps := ["house"]) (k := 5) 11 30 rfl rfl rfl sc_need_house (fun _ _ _ _ _ _ us hl => match us, hl with | [_], _ => rfl) fun f => by
  intro cdv A outer s H E hr hgd
  have hu := room_hu hr
  have hN : (n_need_house : List Str).Nodup := sc_need_house.nd
  have hp : PassesOwn (model P w) (A.deeper (envOfC "need_house" (defScope (top 31)) s.heap.objs.size f cdv)) (envOfC "need_house" (defScope (top 31)) s.heap.objs.size f cdv) (cxOf (L2.CX P w) P w K mg base n_need_house "need_house" (defScope (top 31)) f cdv A outer s H E).xe := passes_of (X := cxOf (L2.CX P w) P w K mg base n_need_house "need_house" (defScope (top 31)) f cdv A outer s H E) rfl
  have tk : Takes (cxOf (L2.CX P w) P w K mg base n_need_house "need_house" (defScope (top 31)) f cdv A outer s H E) (WZ E) := takes_of rfl rfl rfl rfl
  exact (dts_cons (dt_if (db_w (dw_or (db_not (db_val (de_is tells_tuple (Z.fr 0) (Z.fr 10) (by decide +kernel) (de_name 0)))) (dw_or1 (db_not (db_chain (o_le hu) (o_le hu) de_int (de_callB c_len (Z.fr 5) (by decide +kernel) (da_cons (de_name 0) da_nil)) (de_glob (Z.int 29))))))) (dts_one dt_never) dts_nil)
    (dts_cons (dt_for hp rfl (di_enum (Z.fr 23) (da_cons (de_name 0) da_nil)) (dg_tup rfl (dgs_cons (dg_name hN (i := 2)) (dgs_cons (dg_name hN (i := 3)) dgs_nil))) (dts_one (dt_if (db_w (dw_or (db_not (db_val (de_fn (g_is_pair Z) (hr.mono (by decide)) hgd tk (da_cons (de_name 3) da_nil)))) (dw_or1 (db_w (dw_and (db_cmp o_gt (de_name 2) de_int) (dw_and1 (db_not (db_cmp (o_lt hu) (de_ix hu (de_ix hu (de_name 0) (de_op o_sub (de_name 2) de_int)) de_int) (de_ix hu (de_name 3) de_int))))))))) (dts_one dt_never) dts_nil)))
    (dts_cons (dt_setLc (own := [("name", 4), ("kind", 5)]) (i := 1) rfl hN (sw_true rfl rfl rfl rfl) (di_any (de_name 0)) (blkOk_by (own := [("name", 4), ("kind", 5)]) (by kernel_rfl)) (fun _ _ _ _ _ => (dg_tup rfl (dgs_cons (dg_name hN (i := 4)) (dgs_cons (dg_name hN (i := 5)) dgs_nil)))) (fun _ _ _ _ _ => dbs_nil) (fun _ _ _ _ _ => (de_name 4)))
    (dts_cons (dt_for hp rfl (di_enum (Z.fr 23) (da_cons (de_name 0) da_nil)) (dg_tup rfl (dgs_cons (dg_name hN (i := 2)) (dgs_cons (dg_tup rfl (dgs_cons (dg_name hN (i := 4)) (dgs_cons (dg_name hN (i := 5)) dgs_nil))) dgs_nil))) (dts_one (dt_expr (de_fn (g_need_kind Z) (hr.mono (by decide)) hgd tk (da_cons (de_name 2) (da_cons (de_name 5) (da_cons (de_name 1) da_nil)))))))
    (dts_one (dt_ret (de_name 0)))))))
abbrev n_names_in : List Str := ["house", "name", "kind"]
def b_names_in : FS := (sRet (sLc (sIt (sName 0)) (gT 2 (gsC (gN 1) (gsC (gN 2) gsN))) sYes (sName 1) [1, 2]))
def s_names_in : List D → Mem → ER D := fnS n_names_in 1 b_names_in
theorem sc_names_in : FnScope n_names_in ["house"] (defScope (top 32)) := ⟨rfl, rfl, rfl, by decide +kernel, rfl, by decide +kernel, by decide +kernel⟩
theorem g_names_in (Z : Zf fa fn ex K mg) : Callee P w K mg base 1 "names_in" 1 s_names_in := Z.dfn (ps := ["house"]) (k := 0) 12 31 rfl rfl rfl sc_names_in (fun _ _ _ _ _ _ us hl => match us, hl with | [_], _ => rfl) fun f => by
  intro cdv A outer s H E hr hgd
  have hu := room_hu hr
  have hN : (n_names_in : List Str).Nodup := sc_names_in.nd
  have hp : PassesOwn (model P w) (A.deeper (envOfC "names_in" (defScope (top 32)) s.heap.objs.size f cdv)) (envOfC "names_in" (defScope (top 32)) s.heap.objs.size f cdv) (cxOf (L2.CX P w) P w K mg base n_names_in "names_in" (defScope (top 32)) f cdv A outer s H E).xe := passes_of (X := cxOf (L2.CX P w) P w K mg base n_names_in "names_in" (defScope (top 32)) f cdv A outer s H E) rfl
  have tk : Takes (cxOf (L2.CX P w) P w K mg base n_names_in "names_in" (defScope (top 32)) f cdv A outer s H E) (WZ E) := takes_of rfl rfl rfl rfl
  exact (dts_one (dt_ret (de_lc (own := [("name", 1), ("kind", 2)]) rfl hN (di_any (de_name 0)) (blkOk_by (own := [("name", 1), ("kind", 2)]) (by kernel_rfl)) (fun _ _ _ _ _ => (dg_tup rfl (dgs_cons (dg_name hN (i := 1)) (dgs_cons (dg_name hN (i := 2)) dgs_nil)))) (fun _ _ _ _ _ => dbs_nil) (fun _ _ _ _ _ => (de_name 1)))))
abbrev n_edges_in : List Str := ["house", "edge", "name", "book", "below"]
def b_edges_in : FS := (sRet (sLc2 (sIt (sName 0)) (gT 2 (gsC (gN 2) (gsC (gT 2 (gsC (gN 3) (gsC (gN 4) gsN))) gsN))) sYes (sIt (sOp pIx (sName 3) (sC (.int 3)))) (gN 1) sYes (sTup (sCons (sName 2) (sCons (sName 1) sNil))) [2, 3, 4, 1] [1]))
def s_edges_in : List D → Mem → ER D := fnS n_edges_in 1 b_edges_in
theorem sc_edges_in : FnScope n_edges_in ["house"] (defScope (top 33)) := ⟨rfl, rfl, rfl, by decide +kernel, rfl, by decide +kernel, by decide +kernel⟩
theorem g_edges_in (Z : Zf fa fn ex K mg) : Callee P w K mg base 1 "edges_in" 1 s_edges_in := Z.dfn (ps := ["house"]) (k := 0) 13 32 rfl rfl rfl sc_edges_in (fun _ _ _ _ _ _ us hl => match us, hl with | [_], _ => rfl) fun f => by
  intro cdv A outer s H E hr hgd
  have hu := room_hu hr
  have hN : (n_edges_in : List Str).Nodup := sc_edges_in.nd
  have hp : PassesOwn (model P w) (A.deeper (envOfC "edges_in" (defScope (top 33)) s.heap.objs.size f cdv)) (envOfC "edges_in" (defScope (top 33)) s.heap.objs.size f cdv) (cxOf (L2.CX P w) P w K mg base n_edges_in "edges_in" (defScope (top 33)) f cdv A outer s H E).xe := passes_of (X := cxOf (L2.CX P w) P w K mg base n_edges_in "edges_in" (defScope (top 33)) f cdv A outer s H E) rfl
  have tk : Takes (cxOf (L2.CX P w) P w K mg base n_edges_in "edges_in" (defScope (top 33)) f cdv A outer s H E) (WZ E) := takes_of rfl rfl rfl rfl
  exact (dts_one (dt_ret (de_lc2 (own := [("name", 2), ("book", 3), ("below", 4), ("edge", 1)]) (vs1 := [1]) rfl hN (di_any (de_name 0)) (blkOk_by (own := [("name", 2), ("book", 3), ("below", 4), ("edge", 1)]) (by kernel_rfl)) (fun _ _ _ _ _ => (dg_tup rfl (dgs_cons (dg_name hN (i := 2)) (dgs_cons (dg_tup rfl (dgs_cons (dg_name hN (i := 3)) (dgs_cons (dg_name hN (i := 4)) dgs_nil))) dgs_nil)))) (fun _ _ _ _ _ => dbs_nil) (fun _ _ _ _ _ => (di_any (de_ix hu (de_name 3) de_int))) (fun _ _ _ _ _ => (dg_name hN (i := 1))) (fun _ _ _ _ _ => dbs_nil) (fun _ _ _ _ _ => (de_tup (da_cons (de_name 2) (da_cons (de_name 1) da_nil)))))))
abbrev n_names_of : List Str := ["house"]
def b_names_of : FS := (sRet (sCall gTuple (sCons (sFn s_names_in (sCons (sFn s_need_house (sCons (sName 0) sNil)) sNil)) sNil)))
def s_names_of : List D → Mem → ER D := fnS n_names_of 1 b_names_of
theorem sc_names_of : FnScope n_names_of ["house"] (defScope (top 34)) := ⟨rfl, rfl, rfl, by decide +kernel, rfl, by decide +kernel, by decide +kernel⟩
theorem g_names_of (Z : Zf fa fn ex K mg) : Callee P w K mg base 7 "names_of" 1 s_names_of := Z.dfn (ps := ["house"]) (k := 6) 14 33 rfl rfl rfl sc_names_of (fun _ _ _ _ _ _ us hl => match us, hl with | [_], _ => rfl) fun f => by
  intro cdv A outer s H E hr hgd
  have hu := room_hu hr
  have hN : (n_names_of : List Str).Nodup := sc_names_of.nd
  have hp : PassesOwn (model P w) (A.deeper (envOfC "names_of" (defScope (top 34)) s.heap.objs.size f cdv)) (envOfC "names_of" (defScope (top 34)) s.heap.objs.size f cdv) (cxOf (L2.CX P w) P w K mg base n_names_of "names_of" (defScope (top 34)) f cdv A outer s H E).xe := passes_of (X := cxOf (L2.CX P w) P w K mg base n_names_of "names_of" (defScope (top 34)) f cdv A outer s H E) rfl
  have tk : Takes (cxOf (L2.CX P w) P w K mg base n_names_of "names_of" (defScope (top 34)) f cdv A outer s H E) (WZ E) := takes_of rfl rfl rfl rfl
  exact (dts_one (dt_ret (de_callTy c_tuple (Z.fr 10) (by decide +kernel) (da_cons (de_fn (g_names_in Z) (hr.mono (by decide)) hgd tk (da_cons (de_fn (g_need_house Z) (hr.mono (by decide)) hgd tk (da_cons (de_name 0) da_nil)) da_nil)) da_nil))))
abbrev n_edges_of : List Str := ["house"]
def b_edges_of : FS := (sRet (sCall gTuple (sCons (sFn s_edges_in (sCons (sFn s_need_house (sCons (sName 0) sNil)) sNil)) sNil)))
def s_edges_of : List D → Mem → ER D := fnS n_edges_of 1 b_edges_of
theorem sc_edges_of : FnScope n_edges_of ["house"] (defScope (top 35)) := ⟨rfl, rfl, rfl, by decide +kernel, rfl, by decide +kernel, by decide +kernel⟩
theorem g_edges_of (Z : Zf fa fn ex K mg) : Callee P w K mg base 7 "edges_of" 1 s_edges_of := Z.dfn (ps := ["house"]) (k := 6) 15 34 rfl rfl rfl sc_edges_of (fun _ _ _ _ _ _ us hl => match us, hl with | [_], _ => rfl) fun f => by
  intro cdv A outer s H E hr hgd
  have hu := room_hu hr
  have hN : (n_edges_of : List Str).Nodup := sc_edges_of.nd
  have hp : PassesOwn (model P w) (A.deeper (envOfC "edges_of" (defScope (top 35)) s.heap.objs.size f cdv)) (envOfC "edges_of" (defScope (top 35)) s.heap.objs.size f cdv) (cxOf (L2.CX P w) P w K mg base n_edges_of "edges_of" (defScope (top 35)) f cdv A outer s H E).xe := passes_of (X := cxOf (L2.CX P w) P w K mg base n_edges_of "edges_of" (defScope (top 35)) f cdv A outer s H E) rfl
  have tk : Takes (cxOf (L2.CX P w) P w K mg base n_edges_of "edges_of" (defScope (top 35)) f cdv A outer s H E) (WZ E) := takes_of rfl rfl rfl rfl
  exact (dts_one (dt_ret (de_callTy c_tuple (Z.fr 10) (by decide +kernel) (da_cons (de_fn (g_edges_in Z) (hr.mono (by decide)) hgd tk (da_cons (de_fn (g_need_house Z) (hr.mono (by decide)) hgd tk (da_cons (de_name 0) da_nil)) da_nil)) da_nil))))
abbrev n__law_begun : List Str := ["_law_script", "_law_total", "_law_k", "_law_cell"]
def b__law_begun : FS := (sSeq (sAsgN (sC (.int 17)) 1)
    (sSeq (sFor (sItE (sCons (sSl (sName 0) sNoPart (sPart (sC (.int 63)))) sNil)) (gT 2 (gsC (gN 2) (gsC (gN 3) gsN))) (sAsgN (sOp pMod (sCall gInt (sCons (sOp pMul (sOp pAdd (sOp pAdd (sOp pAdd (sName 1) (sOp pMod (sCall gInt (sCons (sName 3) sNil)) (sC (.int 1000000007)))) (sOp pMul (sC (.int 31)) (sName 2))) (sC (.int 7))) (sC (.int 48271))) sNil)) (sC (.int 2147483647))) 1))
    (sRet (sDisp [((sC (.str "great")), (sLc (sIt (sName 0)) (gN 3) (sB (sOp pGe (sName 3) (sOp pPow (sC (.int 10)) (sC (.int 18))))) (sName 3) [3])), ((sC (.str "seed")), (sName 1)), ((sC (.str "at")), (sC (.int 0)))]))))
def s__law_begun : List D → Mem → ER D := fnS n__law_begun 1 b__law_begun
theorem sc__law_begun : FnScope n__law_begun ["_law_script"] (defScope (top 37)) := ⟨rfl, rfl, rfl, by decide +kernel, rfl, by decide +kernel, by decide +kernel⟩
theorem g__law_begun (Z : Zf fa fn ex K mg) : Callee P w K mg base 1 "_law_begun" 1 s__law_begun := Z.dfn (ps := ["_law_script"]) (k := 0) 16 35 rfl rfl rfl sc__law_begun (fun _ _ _ _ _ _ us hl => match us, hl with | [_], _ => rfl) fun f => by
  intro cdv A outer s H E hr hgd
  have hu := room_hu hr
  have hN : (n__law_begun : List Str).Nodup := sc__law_begun.nd
  have hp : PassesOwn (model P w) (A.deeper (envOfC "_law_begun" (defScope (top 37)) s.heap.objs.size f cdv)) (envOfC "_law_begun" (defScope (top 37)) s.heap.objs.size f cdv) (cxOf (L2.CX P w) P w K mg base n__law_begun "_law_begun" (defScope (top 37)) f cdv A outer s H E).xe := passes_of (X := cxOf (L2.CX P w) P w K mg base n__law_begun "_law_begun" (defScope (top 37)) f cdv A outer s H E) rfl
  have tk : Takes (cxOf (L2.CX P w) P w K mg base n__law_begun "_law_begun" (defScope (top 37)) f cdv A outer s H E) (WZ E) := takes_of rfl rfl rfl rfl
  exact (dts_cons (dt_set (i := 1) hN de_int)
    (dts_cons (dt_for hp rfl (di_enum (Z.fr 23) (da_cons (de_sl (de_name 0) do_none (do_some de_int)) da_nil)) (dg_tup rfl (dgs_cons (dg_name hN (i := 2)) (dgs_cons (dg_name hN (i := 3)) dgs_nil))) (dts_one (dt_set (i := 1) hN (de_op o_mod (de_callTy c_int (Z.fr 1) (by decide +kernel) (da_cons (de_op o_mul (de_op o_add (de_op o_add (de_op o_add (de_name 1) (de_op o_mod (de_callTy c_int (Z.fr 1) (by decide +kernel) (da_cons (de_name 3) da_nil)) de_int)) (de_op o_mul de_int (de_name 2))) de_int) de_int) da_nil)) de_int))))
    (dts_one (dt_ret (de_disp (dps_cons de_str (de_lc (own := [("_law_cell", 3)]) rfl hN (di_any (de_name 0)) (blkOk_by (own := [("_law_cell", 3)]) (by kernel_rfl)) (fun _ _ _ _ _ => (dg_name hN (i := 3))) (fun _ _ _ _ _ => (dbs_one (db_cmp o_ge (de_name 3) (de_op o_pow de_int de_int)))) (fun _ _ _ _ _ => (de_name 3))) (dps_cons de_str (de_name 1) (dps_cons de_str de_int dps_nil))))))))
abbrev n__law_draw : List Str := ["_law_m", "_law_top", "_law_k", "_law_mixed", "_law_cell"]
def b__law_draw : FS := (sSeq (sWhile (sAndB (sB (sOp pNe (sOp pIx (sName 0) (sC (.str "great"))) (sLst sNil))) (sB (sOp pEq (sOp pIx (sOp pIx (sName 0) (sC (.str "great"))) (sC (.int 0))) (sC (.int 0))))) (sSub (sSl (sOp pIx (sName 0) (sC (.str "great"))) (sPart (sC (.int 1))) sNoPart) (sName 0) (sC (.str "great"))))
    (sSeq (sIfS (sB (sOp pNe (sOp pIx (sName 0) (sC (.str "great"))) (sLst sNil))) (sSeq (sAsgN (sOp pIx (sOp pIx (sName 0) (sC (.str "great"))) (sC (.int 0))) 4)
    (sSeq (sSub (sOp pAdd (sLst (sCons (sOp pDiv (sName 4) (sName 1)) sNil)) (sSl (sOp pIx (sName 0) (sC (.str "great"))) (sPart (sC (.int 1))) sNoPart)) (sName 0) (sC (.str "great")))
    (sRet (sOp pMod (sCall gInt (sCons (sName 4) sNil)) (sName 1))))) sNx)
    (sSeq (sAsgN (sOp pAdd (sOp pIx (sName 0) (sC (.str "at"))) (sC (.int 1))) 2)
    (sSeq (sSub (sName 2) (sName 0) (sC (.str "at")))
    (sSeq (sAsgN (sOp pMod (sCall gInt (sCons (sOp pMul (sOp pAdd (sOp pAdd (sOp pIx (sName 0) (sC (.str "seed"))) (sOp pMul (sC (.int 7919)) (sName 2))) (sOp pMul (sOp pMul (sC (.int 104729)) (sName 2)) (sName 2))) (sC (.int 69621))) sNil)) (sC (.int 2147483629))) 3)
    (sRet (sOp pMod (sCall gInt (sCons (sOp pDiv (sOp pMod (sCall gInt (sCons (sOp pAdd (sOp pMul (sName 3) (sC (.int 48271))) (sOp pMul (sC (.int 31)) (sName 2))) sNil)) (sC (.int 2147483587))) (sC (.int 11))) sNil)) (sName 1))))))))
def s__law_draw : List D → Mem → ER D := fnS n__law_draw 2 b__law_draw
theorem sc__law_draw : FnScope n__law_draw ["_law_m", "_law_top"] (defScope (top 38)) := ⟨rfl, rfl, rfl, by decide +kernel, rfl, by decide +kernel, by decide +kernel⟩
theorem g__law_draw (Z : Zf fa fn ex K mg) : Callee P w K mg base 1 "_law_draw" 2 s__law_draw := Z.dfn (ps := ["_law_m", "_law_top"]) (k := 0) 17 36 rfl rfl rfl sc__law_draw (fun _ _ _ _ _ _ us hl => match us, hl with | [_, _], _ => rfl) fun f => by
  intro cdv A outer s H E hr hgd
  have hu := room_hu hr
  have hN : (n__law_draw : List Str).Nodup := sc__law_draw.nd
  have hp : PassesOwn (model P w) (A.deeper (envOfC "_law_draw" (defScope (top 38)) s.heap.objs.size f cdv)) (envOfC "_law_draw" (defScope (top 38)) s.heap.objs.size f cdv) (cxOf (L2.CX P w) P w K mg base n__law_draw "_law_draw" (defScope (top 38)) f cdv A outer s H E).xe := passes_of (X := cxOf (L2.CX P w) P w K mg base n__law_draw "_law_draw" (defScope (top 38)) f cdv A outer s H E) rfl
  have tk : Takes (cxOf (L2.CX P w) P w K mg base n__law_draw "_law_draw" (defScope (top 38)) f cdv A outer s H E) (WZ E) := takes_of rfl rfl rfl rfl
  exact (dts_cons (dt_while hp (db_w (dw_and (db_cmp (o_ne hu) (de_ix hu (de_name 0) de_str) (de_lst da_nil)) (dw_and1 (db_cmp (o_eq hu) (de_ix hu (de_ix hu (de_name 0) de_str) de_int) de_int)))) (dts_one (dt_sub hu (de_sl (de_ix hu (de_name 0) de_str) (do_some de_int) do_none) (de_name 0) de_str)))
    (dts_cons (dt_if (db_cmp (o_ne hu) (de_ix hu (de_name 0) de_str) (de_lst da_nil)) (dts_cons (dt_set (i := 4) hN (de_ix hu (de_ix hu (de_name 0) de_str) de_int))
    (dts_cons (dt_sub hu (de_op o_add (de_lst (da_cons (de_op o_div (de_name 4) (de_name 1)) da_nil)) (de_sl (de_ix hu (de_name 0) de_str) (do_some de_int) do_none)) (de_name 0) de_str)
    (dts_one (dt_ret (de_op o_mod (de_callTy c_int (Z.fr 1) (by decide +kernel) (da_cons (de_name 4) da_nil)) (de_name 1)))))) dts_nil)
    (dts_cons (dt_set (i := 2) hN (de_op o_add (de_ix hu (de_name 0) de_str) de_int))
    (dts_cons (dt_sub hu (de_name 2) (de_name 0) de_str)
    (dts_cons (dt_set (i := 3) hN (de_op o_mod (de_callTy c_int (Z.fr 1) (by decide +kernel) (da_cons (de_op o_mul (de_op o_add (de_op o_add (de_ix hu (de_name 0) de_str) (de_op o_mul de_int (de_name 2))) (de_op o_mul (de_op o_mul de_int (de_name 2)) (de_name 2))) de_int) da_nil)) de_int))
    (dts_one (dt_ret (de_op o_mod (de_callTy c_int (Z.fr 1) (by decide +kernel) (da_cons (de_op o_div (de_op o_mod (de_callTy c_int (Z.fr 1) (by decide +kernel) (da_cons (de_op o_add (de_op o_mul (de_name 3) de_int) (de_op o_mul de_int (de_name 2))) da_nil)) de_int) de_int) da_nil)) (de_name 1)))))))))
abbrev n__law_like : List Str := ["_law_told", "_law_due"]
def b__law_like : FS := (sRet (sOp pEq (sCall gRepr (sCons (sName 0) sNil)) (sCall gRepr (sCons (sName 1) sNil))))
def s__law_like : List D → Mem → ER D := fnS n__law_like 2 b__law_like
theorem sc__law_like : FnScope n__law_like ["_law_told", "_law_due"] (defScope (top 39)) := ⟨rfl, rfl, rfl, by decide +kernel, rfl, by decide +kernel, by decide +kernel⟩
theorem g__law_like (Z : Zf fa fn ex K mg) : Callee P w K mg base 1 "_law_like" 2 s__law_like := Z.dfn (ps := ["_law_told", "_law_due"]) (k := 0) 18 38 rfl rfl rfl sc__law_like (fun _ _ _ _ _ _ us hl => match us, hl with | [_, _], _ => rfl) fun f => by
  intro cdv A outer s H E hr hgd
  have hu := room_hu hr
  have hN : (n__law_like : List Str).Nodup := sc__law_like.nd
  have hp : PassesOwn (model P w) (A.deeper (envOfC "_law_like" (defScope (top 39)) s.heap.objs.size f cdv)) (envOfC "_law_like" (defScope (top 39)) s.heap.objs.size f cdv) (cxOf (L2.CX P w) P w K mg base n__law_like "_law_like" (defScope (top 39)) f cdv A outer s H E).xe := passes_of (X := cxOf (L2.CX P w) P w K mg base n__law_like "_law_like" (defScope (top 39)) f cdv A outer s H E) rfl
  have tk : Takes (cxOf (L2.CX P w) P w K mg base n__law_like "_law_like" (defScope (top 39)) f cdv A outer s H E) (WZ E) := takes_of rfl rfl rfl rfl
  exact (dts_one (dt_ret (de_cmp (o_eq hu) (de_callB (c_repr hu hgd) (Z.fr 37) (by decide +kernel) (da_cons (de_name 0) da_nil)) (de_callB (c_repr hu hgd) (Z.fr 37) (by decide +kernel) (da_cons (de_name 1) da_nil)))))
abbrev n__law_some : List Str := ["_law_m", "_law_items"]
def b__law_some : FS := (sRet (sOp pIx (sName 1) (sFn s__law_draw (sCons (sName 0) (sCons (sCall gLen (sCons (sName 1) sNil)) sNil)))))
def s__law_some : List D → Mem → ER D := fnS n__law_some 2 b__law_some
theorem sc__law_some : FnScope n__law_some ["_law_m", "_law_items"] (defScope (top 40)) := ⟨rfl, rfl, rfl, by decide +kernel, rfl, by decide +kernel, by decide +kernel⟩
theorem g__law_some (Z : Zf fa fn ex K mg) : Callee P w K mg base 2 "_law_some" 2 s__law_some := Z.dfn (ps := ["_law_m", "_law_items"]) (k := 1) 19 39 rfl rfl rfl sc__law_some (fun _ _ _ _ _ _ us hl => match us, hl with | [_, _], _ => rfl) fun f => by
  intro cdv A outer s H E hr hgd
  have hu := room_hu hr
  have hN : (n__law_some : List Str).Nodup := sc__law_some.nd
  have hp : PassesOwn (model P w) (A.deeper (envOfC "_law_some" (defScope (top 40)) s.heap.objs.size f cdv)) (envOfC "_law_some" (defScope (top 40)) s.heap.objs.size f cdv) (cxOf (L2.CX P w) P w K mg base n__law_some "_law_some" (defScope (top 40)) f cdv A outer s H E).xe := passes_of (X := cxOf (L2.CX P w) P w K mg base n__law_some "_law_some" (defScope (top 40)) f cdv A outer s H E) rfl
  have tk : Takes (cxOf (L2.CX P w) P w K mg base n__law_some "_law_some" (defScope (top 40)) f cdv A outer s H E) (WZ E) := takes_of rfl rfl rfl rfl
  exact (dts_one (dt_ret (de_ix hu (de_name 1) (de_fn (g__law_draw Z) (hr.mono (by decide)) hgd tk (da_cons (de_name 0) (da_cons (de_callB c_len (Z.fr 5) (by decide +kernel) (da_cons (de_name 1) da_nil)) da_nil))))))
abbrev n__law_order : List Str := ["_law_m", "_law_many", "_law_rest", "_law_found"]
def b__law_order : FS := (sSeq (sPar2 (sCons (sListRM (sR1 (sName 1))) (sCons (sLstM sNil) sNil)) 2 3)
    (sSeq (sWhile (sB (sOp pNe (sName 2) (sLst sNil))) (sDrop (sMt (onLst fAppend) (sName 3) (sCons (sMt (onLst fPop1) (sName 2) (sCons (sFn s__law_draw (sCons (sName 0) (sCons (sCall gLen (sCons (sName 2) sNil)) sNil))) sNil)) sNil))))
    (sRet (sFz (sName 3)))))
def s__law_order : List D → Mem → ER D := fnS n__law_order 2 b__law_order
theorem sc__law_order : FnScope n__law_order ["_law_m", "_law_many"] (defScope (top 41)) := ⟨rfl, rfl, rfl, by decide +kernel, rfl, by decide +kernel, by decide +kernel⟩
theorem g__law_order (Z : Zf fa fn ex K mg) : Callee P w K mg base 2 "_law_order" 2 s__law_order := Z.dfn (ps := ["_law_m", "_law_many"]) (k := 1) 20 42 rfl rfl rfl sc__law_order (fun _ _ _ _ _ _ us hl => match us, hl with | [_, _], _ => rfl) fun f => by
  intro cdv A outer s H E hr hgd
  have hu := room_hu hr
  have hN : (n__law_order : List Str).Nodup := sc__law_order.nd
  have hp : PassesOwn (model P w) (A.deeper (envOfC "_law_order" (defScope (top 41)) s.heap.objs.size f cdv)) (envOfC "_law_order" (defScope (top 41)) s.heap.objs.size f cdv) (cxOf (L2.CX P w) P w K mg base n__law_order "_law_order" (defScope (top 41)) f cdv A outer s H E).xe := passes_of (X := cxOf (L2.CX P w) P w K mg base n__law_order "_law_order" (defScope (top 41)) f cdv A outer s H E) rfl
  have tk : Takes (cxOf (L2.CX P w) P w K mg base n__law_order "_law_order" (defScope (top 41)) f cdv A outer s H E) (WZ E) := takes_of rfl rfl rfl rfl
  exact (dts_cons (dt_par2 (i := 2) (j := 3) rfl hN (da_cons (de_listR1M rfl (Z.fr 40) (Z.fr 41) (de_name 1)) (da_cons (de_lstM da_nil) da_nil)))
    (dts_cons (dt_while hp (db_cmp (o_ne hu) (de_name 2) (de_lst da_nil)) (dts_one (dt_expr (de_m1 PySem.F.slot_list_append PySem.F.type_list_append m_append (de_name 3) (da_cons (de_m1 PySem.F.slot_list_pop PySem.F.type_list_pop m_pop1 (de_name 2) (da_cons (de_fn (g__law_draw Z) (hr.mono (by decide)) hgd tk (da_cons (de_name 0) (da_cons (de_callB c_len (Z.fr 5) (by decide +kernel) (da_cons (de_name 2) da_nil)) da_nil))) da_nil)) da_nil)))))
    (dts_one (dt_ret (de_fz (de_name 3))))))
abbrev n__law_asks : List Str := ["_law_m", "_law_some_here"]
def b__law_asks : FS := (sSeq (sAsgN (sLst (sCons (sTup sNil) (sCons (sTup sNil) (sCons (sTup (sCons (sC (.str "over")) sNil)) (sCons (sTup (sCons (sC (.str "over")) sNil)) (sCons (sTup (sCons (sC (.str "calm")) sNil)) (sCons (sTup (sCons (sC (.str "unheld")) sNil)) (sCons (sTup (sCons (sC (.str "held")) sNil)) (sCons (sTup (sCons (sC (.str "rung")) sNil)) (sCons (sTup (sCons (sC (.str "calm")) (sCons (sC (.str "over")) sNil))) sNil)))))))))) 1)
    (sRet (sFn s__law_some (sCons (sName 0) (sCons (sOp pAdd (sName 1) (sLst (sCons (sTup (sCons (sC (.str "held")) (sCons (sC (.str "over")) sNil))) (sCons (sTup (sCons (sC (.str "over")) (sCons (sC (.str "unheld")) sNil))) (sCons (sTup (sCons (sC (.str "over")) (sCons (sC (.str "rung")) sNil))) (sCons (sTup (sCons (sC (.str "held")) (sCons (sC (.str "rung")) sNil))) sNil)))))) sNil)))))
def s__law_asks : List D → Mem → ER D := fnS n__law_asks 1 b__law_asks
theorem sc__law_asks : FnScope n__law_asks ["_law_m"] (defScope (top 42)) := ⟨rfl, rfl, rfl, by decide +kernel, rfl, by decide +kernel, by decide +kernel⟩
theorem g__law_asks (Z : Zf fa fn ex K mg) : Callee P w K mg base 3 "_law_asks" 1 s__law_asks := Z.dfn (ps := ["_law_m"]) (k := 2) 21 43 rfl rfl rfl sc__law_asks (fun _ _ _ _ _ _ us hl => match us, hl with | [_], _ => rfl) fun f => by
  intro cdv A outer s H E hr hgd
  have hu := room_hu hr
  have hN : (n__law_asks : List Str).Nodup := sc__law_asks.nd
  have hp : PassesOwn (model P w) (A.deeper (envOfC "_law_asks" (defScope (top 42)) s.heap.objs.size f cdv)) (envOfC "_law_asks" (defScope (top 42)) s.heap.objs.size f cdv) (cxOf (L2.CX P w) P w K mg base n__law_asks "_law_asks" (defScope (top 42)) f cdv A outer s H E).xe := passes_of (X := cxOf (L2.CX P w) P w K mg base n__law_asks "_law_asks" (defScope (top 42)) f cdv A outer s H E) rfl
  have tk : Takes (cxOf (L2.CX P w) P w K mg base n__law_asks "_law_asks" (defScope (top 42)) f cdv A outer s H E) (WZ E) := takes_of rfl rfl rfl rfl
  exact (dts_cons (dt_set (i := 1) hN (de_lst (da_cons (de_tup da_nil) (da_cons (de_tup da_nil) (da_cons (de_tup (da_cons de_str da_nil)) (da_cons (de_tup (da_cons de_str da_nil)) (da_cons (de_tup (da_cons de_str da_nil)) (da_cons (de_tup (da_cons de_str da_nil)) (da_cons (de_tup (da_cons de_str da_nil)) (da_cons (de_tup (da_cons de_str da_nil)) (da_cons (de_tup (da_cons de_str (da_cons de_str da_nil))) da_nil)))))))))))
    (dts_one (dt_ret (de_fn (g__law_some Z) (hr.mono (by decide)) hgd tk (da_cons (de_name 0) (da_cons (de_op o_add (de_name 1) (de_lst (da_cons (de_tup (da_cons de_str (da_cons de_str da_nil))) (da_cons (de_tup (da_cons de_str (da_cons de_str da_nil))) (da_cons (de_tup (da_cons de_str (da_cons de_str da_nil))) (da_cons (de_tup (da_cons de_str (da_cons de_str da_nil))) da_nil)))))) da_nil))))))
abbrev n__law_edge : List Str := ["_law_m", "_law_begin", "_law_end"]
def b__law_edge : FS := (sRet (sTup (sCons (sName 1) (sCons (sFn s__law_asks (sCons (sName 0) sNil)) (sCons (sFn s__law_some (sCons (sName 0) (sCons (sLst (sCons (sC (.str "go")) (sCons (sC (.str "go")) (sCons (sC (.str "hold")) (sCons (sC (.str "give")) (sCons (sC (.str "hush")) sNil)))))) sNil))) (sCons (sName 2) sNil))))))
def s__law_edge : List D → Mem → ER D := fnS n__law_edge 3 b__law_edge
theorem sc__law_edge : FnScope n__law_edge ["_law_m", "_law_begin", "_law_end"] (defScope (top 43)) := ⟨rfl, rfl, rfl, by decide +kernel, rfl, by decide +kernel, by decide +kernel⟩
theorem g__law_edge (Z : Zf fa fn ex K mg) : Callee P w K mg base 4 "_law_edge" 3 s__law_edge := Z.dfn (ps := ["_law_m", "_law_begin", "_law_end"]) (k := 3) 22 44 rfl rfl rfl sc__law_edge (fun _ _ _ _ _ _ us hl => match us, hl with | [_, _, _], _ => rfl) fun f => by
  intro cdv A outer s H E hr hgd
  have hu := room_hu hr
  have hN : (n__law_edge : List Str).Nodup := sc__law_edge.nd
  have hp : PassesOwn (model P w) (A.deeper (envOfC "_law_edge" (defScope (top 43)) s.heap.objs.size f cdv)) (envOfC "_law_edge" (defScope (top 43)) s.heap.objs.size f cdv) (cxOf (L2.CX P w) P w K mg base n__law_edge "_law_edge" (defScope (top 43)) f cdv A outer s H E).xe := passes_of (X := cxOf (L2.CX P w) P w K mg base n__law_edge "_law_edge" (defScope (top 43)) f cdv A outer s H E) rfl
  have tk : Takes (cxOf (L2.CX P w) P w K mg base n__law_edge "_law_edge" (defScope (top 43)) f cdv A outer s H E) (WZ E) := takes_of rfl rfl rfl rfl
  exact (dts_one (dt_ret (de_tup (da_cons (de_name 1) (da_cons (de_fn (g__law_asks Z) (hr.mono (by decide)) hgd tk (da_cons (de_name 0) da_nil)) (da_cons (de_fn (g__law_some Z) (hr.mono (by decide)) hgd tk (da_cons (de_name 0) (da_cons (de_lst (da_cons de_str (da_cons de_str (da_cons de_str (da_cons de_str (da_cons de_str da_nil)))))) da_nil))) (da_cons (de_name 2) da_nil)))))))
abbrev n__law_book : List Str := ["_law_m", "_law_stands", "_law_most", "_law_here", "_law_again", "_law_up", "_law_deaf", "_law_many", "_law_edges", "_law_stand"]
def b__law_book : FS := (sSeq (sPar2 (sCons (sOp pAdd (sC (.int 1)) (sFn s__law_draw (sCons (sName 0) (sCons (sName 1) sNil)))) (sCons sDictT sNil)) 7 8)
    (sSeq (sFor (sIt1 (sCons (sOp pSub (sName 7) (sC (.int 1))) sNil)) (gN 3) (sSub (sC (.bl true)) (sName 8) (sFn s__law_edge (sCons (sName 0) (sCons (sName 3) (sCons (sOp pAdd (sName 3) (sC (.int 1))) sNil))))))
    (sSeq (sFor (sIt1 (sCons (sFn s__law_draw (sCons (sName 0) (sCons (sOp pAdd (sName 2) (sC (.int 1))) sNil))) sNil)) (gN 4) (sSub (sC (.bl true)) (sName 8) (sFn s__law_edge (sCons (sName 0) (sCons (sFn s__law_draw (sCons (sName 0) (sCons (sName 7) sNil))) (sCons (sFn s__law_draw (sCons (sName 0) (sCons (sName 7) sNil))) sNil))))))
    (sSeq (sAsgN (sCall gTuple (sCons (sLc (sIt2 (sCons (sC (.int 1)) (sCons (sName 7) sNil))) (gN 9) (sB (sOp pEq (sFn s__law_draw (sCons (sName 0) (sCons (sC (.int 2)) sNil))) (sC (.int 0)))) (sName 9) [9]) sNil)) 5)
    (sSeq (sAsgN (sCall gTuple (sCons (sLc (sIt1 (sCons (sName 7) sNil)) (gN 9) (sB (sOp pEq (sFn s__law_draw (sCons (sName 0) (sCons (sC (.int 4)) sNil))) (sC (.int 0)))) (sName 9) [9]) sNil)) 6)
    (sRet (sTup (sCons (sName 7) (sCons (sName 5) (sCons (sName 6) (sCons (sCall gTuple (sCons (sCallL gSorted (sCons (sCallL gList (sCons (sName 8) sNil)) sNil)) sNil)) sNil)))))))))))
def s__law_book : List D → Mem → ER D := fnS n__law_book 3 b__law_book
theorem sc__law_book : FnScope n__law_book ["_law_m", "_law_stands", "_law_most"] (defScope (top 44)) := ⟨rfl, rfl, rfl, by decide +kernel, rfl, by decide +kernel, by decide +kernel⟩
theorem g__law_book (Z : Zf fa fn ex K mg) : Callee P w K mg base 5 "_law_book" 3 s__law_book := Z.dfn (ps := ["_law_m", "_law_stands", "_law_most"]) (k := 4) 23 46 rfl rfl rfl sc__law_book (fun _ _ _ _ _ _ us hl => match us, hl with | [_, _, _], _ => rfl) fun f => by
  intro cdv A outer s H E hr hgd
  have hu := room_hu hr
  have hN : (n__law_book : List Str).Nodup := sc__law_book.nd
  have hp : PassesOwn (model P w) (A.deeper (envOfC "_law_book" (defScope (top 44)) s.heap.objs.size f cdv)) (envOfC "_law_book" (defScope (top 44)) s.heap.objs.size f cdv) (cxOf (L2.CX P w) P w K mg base n__law_book "_law_book" (defScope (top 44)) f cdv A outer s H E).xe := passes_of (X := cxOf (L2.CX P w) P w K mg base n__law_book "_law_book" (defScope (top 44)) f cdv A outer s H E) rfl
  have tk : Takes (cxOf (L2.CX P w) P w K mg base n__law_book "_law_book" (defScope (top 44)) f cdv A outer s H E) (WZ E) := takes_of rfl rfl rfl rfl
  exact (dts_cons (dt_par2 (i := 7) (j := 8) rfl hN (da_cons (de_op o_add de_int (de_fn (g__law_draw Z) (hr.mono (by decide)) hgd tk (da_cons (de_name 0) (da_cons (de_name 1) da_nil)))) (da_cons de_dictT da_nil)))
    (dts_cons (dt_for hp rfl (di_range1 (Z.fr 41) (da_cons (de_op o_sub (de_name 7) de_int) da_nil)) (dg_name hN (i := 3)) (dts_one (dt_sub hu de_bl (de_name 8) (de_fn (g__law_edge Z) (hr.mono (by decide)) hgd tk (da_cons (de_name 0) (da_cons (de_name 3) (da_cons (de_op o_add (de_name 3) de_int) da_nil)))))))
    (dts_cons (dt_for hp rfl (di_range1 (Z.fr 41) (da_cons (de_fn (g__law_draw Z) (hr.mono (by decide)) hgd tk (da_cons (de_name 0) (da_cons (de_op o_add (de_name 2) de_int) da_nil))) da_nil)) (dg_name hN (i := 4)) (dts_one (dt_sub hu de_bl (de_name 8) (de_fn (g__law_edge Z) (hr.mono (by decide)) hgd tk (da_cons (de_name 0) (da_cons (de_fn (g__law_draw Z) (hr.mono (by decide)) hgd tk (da_cons (de_name 0) (da_cons (de_name 7) da_nil))) (da_cons (de_fn (g__law_draw Z) (hr.mono (by decide)) hgd tk (da_cons (de_name 0) (da_cons (de_name 7) da_nil))) da_nil)))))))
    (dts_cons (dt_set (i := 5) hN (de_callTy c_tuple (Z.fr 10) (by decide +kernel) (da_cons (de_lc (own := [("_law_stand", 9)]) rfl hN (di_range2 (Z.fr 41) (da_cons de_int (da_cons (de_name 7) da_nil))) (blkOk_by (own := [("_law_stand", 9)]) (by kernel_rfl)) (fun _ _ _ _ _ => (dg_name hN (i := 9))) (fun _ _ _ _ _ => (dbs_one (db_cmp (o_eq hu) (de_fn (g__law_draw Z) (hr.mono (by decide)) hgd takes0 (da_cons (de_name 0) (da_cons de_int da_nil))) de_int))) (fun _ _ _ _ _ => (de_name 9))) da_nil)))
    (dts_cons (dt_set (i := 6) hN (de_callTy c_tuple (Z.fr 10) (by decide +kernel) (da_cons (de_lc (own := [("_law_stand", 9)]) rfl hN (di_range1 (Z.fr 41) (da_cons (de_name 7) da_nil)) (blkOk_by (own := [("_law_stand", 9)]) (by kernel_rfl)) (fun _ _ _ _ _ => (dg_name hN (i := 9))) (fun _ _ _ _ _ => (dbs_one (db_cmp (o_eq hu) (de_fn (g__law_draw Z) (hr.mono (by decide)) hgd takes0 (da_cons (de_name 0) (da_cons de_int da_nil))) de_int))) (fun _ _ _ _ _ => (de_name 9))) da_nil)))
    (dts_one (dt_ret (de_tup (da_cons (de_name 7) (da_cons (de_name 5) (da_cons (de_name 6) (da_cons (de_callTy c_tuple (Z.fr 10) (by decide +kernel) (da_cons (de_callBL (c_sorted hu) (Z.fr 45) (by decide +kernel) (da_cons (de_callTyL (c_list rfl) (Z.fr 40) (by decide +kernel) (da_cons (de_name 8) da_nil)) da_nil)) da_nil)) da_nil))))))))))))
abbrev n__law_house : List Str := ["_law_m", "_law_kinds", "_law_stands", "_law_most", "_law_names", "_law_found", "_law_name", "_law_below", "_law_at", "_law_low"]
def b__law_house : FS := (sSeq (sAsgN (sCallL gSorted (sCons (sLc (sIt (sSl (sFn s__law_order (sCons (sName 0) (sCons (sC (.int 4)) sNil))) sNoPart (sPart (sOp pAdd (sC (.int 1)) (sFn s__law_draw (sCons (sName 0) (sCons (sName 1) sNil))))))) (gN 8) sYes (sOp pIx (sLst (sCons (sC (.str "a")) (sCons (sC (.str "bus")) (sCons (sC (.str "go")) (sCons (sC (.str "up")) sNil))))) (sName 8)) [8]) sNil)) 4)
    (sSeq (sAsgN (sLstM sNil) 5)
    (sSeq (sFor (sIt (sName 4)) (gN 6) (sSeq (sAsgN (sCall gTuple (sCons (sLc (sIt (sName 4)) (gN 9) (sB (sOp pGt (sFn s__law_draw (sCons (sName 0) (sCons (sC (.int 4)) sNil))) (sC (.int 0)))) (sName 9) [9]) sNil)) 7)
    (sDrop (sMt (onLst fAppend) (sName 5) (sCons (sTup (sCons (sName 6) (sCons (sTup (sCons (sFn s__law_book (sCons (sName 0) (sCons (sName 2) (sCons (sName 3) sNil)))) (sCons (sName 7) sNil))) sNil))) sNil)))))
    (sRet (sCall gTuple (sCons (sName 5) sNil))))))
def s__law_house : List D → Mem → ER D := fnS n__law_house 4 b__law_house
theorem sc__law_house : FnScope n__law_house ["_law_m", "_law_kinds", "_law_stands", "_law_most"] (defScope (top 45)) := ⟨rfl, rfl, rfl, by decide +kernel, rfl, by decide +kernel, by decide +kernel⟩
theorem g__law_house (Z : Zf fa fn ex K mg) : Callee P w K mg base 6 "_law_house" 4 s__law_house := Z.dfn (ps := ["_law_m", "_law_kinds", "_law_stands", "_law_most"]) (k := 5) 24 47 rfl rfl rfl sc__law_house (fun _ _ _ _ _ _ us hl => match us, hl with | [_, _, _, _], _ => rfl) fun f => by
  intro cdv A outer s H E hr hgd
  have hu := room_hu hr
  have hN : (n__law_house : List Str).Nodup := sc__law_house.nd
  have hp : PassesOwn (model P w) (A.deeper (envOfC "_law_house" (defScope (top 45)) s.heap.objs.size f cdv)) (envOfC "_law_house" (defScope (top 45)) s.heap.objs.size f cdv) (cxOf (L2.CX P w) P w K mg base n__law_house "_law_house" (defScope (top 45)) f cdv A outer s H E).xe := passes_of (X := cxOf (L2.CX P w) P w K mg base n__law_house "_law_house" (defScope (top 45)) f cdv A outer s H E) rfl
  have tk : Takes (cxOf (L2.CX P w) P w K mg base n__law_house "_law_house" (defScope (top 45)) f cdv A outer s H E) (WZ E) := takes_of rfl rfl rfl rfl
  exact (dts_cons (dt_set (i := 4) hN (de_callBL (c_sorted hu) (Z.fr 45) (by decide +kernel) (da_cons (de_lc (own := [("_law_at", 8)]) rfl hN (di_any (de_sl (de_fn (g__law_order Z) (hr.mono (by decide)) hgd tk (da_cons (de_name 0) (da_cons de_int da_nil))) do_none (do_some (de_op o_add de_int (de_fn (g__law_draw Z) (hr.mono (by decide)) hgd tk (da_cons (de_name 0) (da_cons (de_name 1) da_nil))))))) (blkOk_by (own := [("_law_at", 8)]) (by kernel_rfl)) (fun _ _ _ _ _ => (dg_name hN (i := 8))) (fun _ _ _ _ _ => dbs_nil) (fun _ _ _ _ _ => (de_ix hu (de_lst (da_cons de_str (da_cons de_str (da_cons de_str (da_cons de_str da_nil))))) (de_name 8)))) da_nil)))
    (dts_cons (dt_set (i := 5) hN (de_lstM da_nil))
    (dts_cons (dt_for hp rfl (di_any (de_name 4)) (dg_name hN (i := 6)) (dts_cons (dt_set (i := 7) hN (de_callTy c_tuple (Z.fr 10) (by decide +kernel) (da_cons (de_lc (own := [("_law_low", 9)]) rfl hN (di_any (de_name 4)) (blkOk_by (own := [("_law_low", 9)]) (by kernel_rfl)) (fun _ _ _ _ _ => (dg_name hN (i := 9))) (fun _ _ _ _ _ => (dbs_one (db_cmp o_gt (de_fn (g__law_draw Z) (hr.mono (by decide)) hgd takes0 (da_cons (de_name 0) (da_cons de_int da_nil))) de_int))) (fun _ _ _ _ _ => (de_name 9))) da_nil)))
    (dts_one (dt_expr (de_m1 PySem.F.slot_list_append PySem.F.type_list_append m_append (de_name 5) (da_cons (de_tup (da_cons (de_name 6) (da_cons (de_tup (da_cons (de_fn (g__law_book Z) (hr.mono (by decide)) hgd tk (da_cons (de_name 0) (da_cons (de_name 2) (da_cons (de_name 3) da_nil)))) (da_cons (de_name 7) da_nil))) da_nil))) da_nil))))))
    (dts_one (dt_ret (de_callTy c_tuple (Z.fr 10) (by decide +kernel) (da_cons (de_name 5) da_nil)))))))
abbrev n_law : List Str := ["_law_script", "_law_m", "_law_turn", "_law_due", "_law_house_here", "_law_rows", "_law_name", "_law_kind", "_law_edge_here"]
def b_law : FS := (sSeq (sAsgN (sFn s__law_begun (sCons (sName 0) sNil)) 1)
    (sSeq (sFor (sIt1 (sCons (sC (.int 4)) sNil)) (gN 2) (sSeq (sPar2 (sCons (sFn s__law_house (sCons (sName 1) (sCons (sC (.int 3)) (sCons (sC (.int 6)) (sCons (sC (.int 8)) sNil))))) (sCons (sLst sNil) sNil)) 4 5)
    (sSeq (sFor (sIt (sName 4)) (gT 2 (gsC (gN 6) (gsC (gN 7) gsN))) (sAsgN (sOp pAdd (sName 5) (sLc (sIt (sOp pIx (sOp pIx (sName 7) (sC (.int 0))) (sC (.int 3)))) (gN 8) sYes (sTup (sCons (sName 6) (sCons (sName 8) sNil))) [8])) 5))
    (sSeq (sAsgN (sLst (sCons (sCall gTuple (sCons (sLc (sIt (sName 4)) (gT 2 (gsC (gN 6) (gsC (gN 7) gsN))) sYes (sName 6) [6, 7]) sNil)) (sCons (sCall gTuple (sCons (sCallL gSorted (sCons (sName 5) sNil)) sNil)) sNil))) 3)
    (sIfS (sNotB (sB (sFn s__law_like (sCons (sLst (sCons (sFn s_names_of (sCons (sName 4) sNil)) (sCons (sFn s_edges_of (sCons (sName 4) sNil)) sNil))) (sCons (sName 3) sNil))))) (sRet (sC (.bl false))) sNx)))))
    (sRet (sOp pEq (sFn s_edges_of (sCons (sTup (sCons (sTup (sCons (sC (.str "a")) (sCons (sTup (sCons (sTup (sCons (sC (.int 1)) (sCons (sTup sNil) (sCons (sTup sNil) (sCons (sTup sNil) sNil))))) (sCons (sTup sNil) sNil))) sNil))) sNil)) sNil)) (sTup sNil)))))
def s_law : List D → Mem → ER D := fnS n_law 1 b_law
theorem sc_law : FnScope n_law ["_law_script"] (defScope (top 46)) := ⟨rfl, rfl, rfl, by decide +kernel, rfl, by decide +kernel, by decide +kernel⟩
end
/-- the law's def -/
theorem g_law {P : Program} {w : World} {K : PySem.W.Frag} {mg : Str → Option Value} {base : Heap} {f : Addr} {fd : FuncData} (Z : Zf fa fn ex K mg) (F : FunD K "law" "law" (defArgs (top 46)) (defBody (top 46)) (defScope (top 46)) [] [] f fd) : FnG P w K mg base 8 f fd ["_law_script"] s_law := fng_funD (k := 7) F sc_law fun cdv A outer s H E hr hgd => by
  have hu := room_hu hr
  have hN : (n_law : List Str).Nodup := sc_law.nd
  have hp : PassesOwn (model P w) (A.deeper (envOfC "law" (defScope (top 46)) s.heap.objs.size f cdv)) (envOfC "law" (defScope (top 46)) s.heap.objs.size f cdv) (cxOf (L2.CX P w) P w K mg base n_law "law" (defScope (top 46)) f cdv A outer s H E).xe := passes_of (X := cxOf (L2.CX P w) P w K mg base n_law "law" (defScope (top 46)) f cdv A outer s H E) rfl
  have tk : Takes (cxOf (L2.CX P w) P w K mg base n_law "law" (defScope (top 46)) f cdv A outer s H E) (WZ E) := takes_of rfl rfl rfl rfl
  exact (dts_cons (dt_set (i := 1) hN (de_fn (g__law_begun Z) (hr.mono (by decide)) hgd tk (da_cons (de_name 0) da_nil)))
    (dts_cons (dt_for hp rfl (di_range1 (Z.fr 41) (da_cons de_int da_nil)) (dg_name hN (i := 2)) (dts_cons (dt_par2 (i := 4) (j := 5) rfl hN (da_cons (de_fn (g__law_house Z) (hr.mono (by decide)) hgd tk (da_cons (de_name 1) (da_cons de_int (da_cons de_int (da_cons de_int da_nil))))) (da_cons (de_lst da_nil) da_nil)))
    (dts_cons (dt_for hp rfl (di_any (de_name 4)) (dg_tup rfl (dgs_cons (dg_name hN (i := 6)) (dgs_cons (dg_name hN (i := 7)) dgs_nil))) (dts_one (dt_set (i := 5) hN (de_op o_add (de_name 5) (de_lc (own := [("_law_edge_here", 8)]) rfl hN (di_any (de_ix hu (de_ix hu (de_name 7) de_int) de_int)) (blkOk_by (own := [("_law_edge_here", 8)]) (by kernel_rfl)) (fun _ _ _ _ _ => (dg_name hN (i := 8))) (fun _ _ _ _ _ => dbs_nil) (fun _ _ _ _ _ => (de_tup (da_cons (de_name 6) (da_cons (de_name 8) da_nil)))))))))
    (dts_cons (dt_set (i := 3) hN (de_lst (da_cons (de_callTy c_tuple (Z.fr 10) (by decide +kernel) (da_cons (de_lc (own := [("_law_name", 6), ("_law_kind", 7)]) rfl hN (di_any (de_name 4)) (blkOk_by (own := [("_law_name", 6), ("_law_kind", 7)]) (by kernel_rfl)) (fun _ _ _ _ _ => (dg_tup rfl (dgs_cons (dg_name hN (i := 6)) (dgs_cons (dg_name hN (i := 7)) dgs_nil)))) (fun _ _ _ _ _ => dbs_nil) (fun _ _ _ _ _ => (de_name 6))) da_nil)) (da_cons (de_callTy c_tuple (Z.fr 10) (by decide +kernel) (da_cons (de_callBL (c_sorted hu) (Z.fr 45) (by decide +kernel) (da_cons (de_name 5) da_nil)) da_nil)) da_nil))))
    (dts_one (dt_if (db_not (db_val (de_fn (g__law_like Z) (hr.mono (by decide)) hgd tk (da_cons (de_lst (da_cons (de_fn (g_names_of Z) (hr.mono (by decide)) hgd tk (da_cons (de_name 4) da_nil)) (da_cons (de_fn (g_edges_of Z) (hr.mono (by decide)) hgd tk (da_cons (de_name 4) da_nil)) da_nil))) (da_cons (de_name 3) da_nil))))) (dts_one (dt_ret de_bl)) dts_nil))))))
    (dts_one (dt_ret (de_cmp (o_eq hu) (de_fn (g_edges_of Z) (hr.mono (by decide)) hgd tk (da_cons (de_tup (da_cons (de_tup (da_cons de_str (da_cons (de_tup (da_cons (de_tup (da_cons de_int (da_cons (de_tup da_nil) (da_cons (de_tup da_nil) (da_cons (de_tup da_nil) da_nil))))) (da_cons (de_tup da_nil) da_nil))) da_nil))) da_nil)) da_nil)) (de_tup da_nil))))))
end DL

set_option Elab.async false
set_option linter.all false
set_option maxRecDepth 100000
set_option maxHeartbeats 0
namespace DL
open PySem PySem.Spec PyProof.Rows L2
abbrev lawR : PySem.W.OpenLaw := PySem.Challenge.rw_wakebook_k02_names_and_edges_of_houses
def loose1 : List Str := ["WakeError", "BadHouse", "MOST_KINDS", "MOST_STANDS", "MOST_EDGES", "MOST_LETTERS", "LETTERS", "CALM", "HELD", "OVER", "RUNG", "UNHELD", "ASKS", "GIVE", "GO", "HOLD", "HUSH", "DEEDS"]
def loose2 : List Str := ["is_whole", "is_word", "is_tuple_of", "is_ascending", "is_stands", "is_asks", "is_edge", "need_edges", "is_below", "need_kind", "is_pair", "need_house", "names_in", "edges_in", "names_of", "edges_of"]
def loose3 : List Str := ["_law_begun", "_law_draw", "_law_like", "_law_some", "_law_order", "_law_asks", "_law_edge", "_law_book", "_law_house"]
def looseN : List Str := loose1 ++ loose2 ++ loose3
abbrev hk : PySem.W.Hook := hookZ 4 fa fn ex
def ob (s : PySem.W.SharedT) : AlZ := obsZ 4 fa fn ex (HandSHeadRun.getT s)
theorem ob_eq (s : PySem.W.SharedT) : ob s = hk.obs s.abs := obsZ_eq (HandSHeadRun.getT_eq s)
set_option maxRecDepth 1000000 in
theorem runs (w : World) : HandSHeadRun.RunEq (PySem.W.OpenLaw.row lawR) (PySem.W.view (PySem.W.OpenLaw.row lawR).prog [46]) hk ob 4000 looseN w := by
  intro os
  kernel_rfl
end DL

set_option Elab.async false
set_option linter.all false
set_option maxRecDepth 100000
/-! Plain part a: the combinators, as simp sees them. -/
namespace DL
open PySem PySem.Spec PyProof.Rows L2
/-! ### expressions -/
def D.get (d : D) (m : Mem) : ER D := match d with
  | .und => .bad
  | d => .ok d m
@[simp] theorem get_p (x : P) (m : Mem) : (D.p x).get m = .ok (.p x) m := id rfl
@[simp] theorem get_ref (i : Nat) (m : Mem) : (D.ref i).get m = .ok (.ref i) m := id rfl
def getO (d : Option D) (m : Mem) : ER D := match d with
  | some d => d.get m
  | none => .bad
@[simp] theorem getO_some (d : D) (m : Mem) : getO (some d) m = d.get m := id rfl
@[simp] theorem e_name (i : Nat) (δ : DS) (m : Mem) : sName i δ m = getO δ[i]? m := by
  unfold sName getO D.get
  cases δ[i]? with
  | none => rfl
  | some d => cases d <;> rfl
@[simp] theorem e_c (x : P) (δ : DS) (m : Mem) : sC x δ m = .ok (.p x) m := id rfl
@[simp] theorem e_op (g : P → P → Option P) (fa fb : FE) (δ : DS) (m : Mem) : sOp g fa fb δ m = (fa δ m).bind fun d m => (fb δ m).bind fun e m => op2 g d e m := id rfl
@[simp] theorem e_un (g : P → Option P) (fa : FE) (δ : DS) (m : Mem) : sUn g fa δ m = (fa δ m).bind fun d m => op1 g d m := id rfl
@[simp] theorem e_chain (g g' : P → P → Option P) (fa fb fc : FE) (δ : DS) (m : Mem) : sChain g g' fa fb fc δ m = (fa δ m).bind fun d m => (fb δ m).bind fun e m => (op2 g d e m).bind fun z m => (asB z m).bind fun k m => if k = true then (fc δ m).bind fun c m => op2 g' e c m else .ok (.p (.bl false)) m := id rfl
@[simp] theorem e_B (fa : FE) (δ : DS) (m : Mem) : sB fa δ m = (fa δ m).bind asB := id rfl
@[simp] theorem asB_bl (b : Bool) (m : Mem) : asB (.p (.bl b)) m = .ok b m := id rfl
@[simp] theorem e_AndB (ga gb : FB) (δ : DS) (m : Mem) : sAndB ga gb δ m = (ga δ m).bind fun c m => if c = true then gb δ m else .ok false m := id rfl
@[simp] theorem e_OrB (ga gb : FB) (δ : DS) (m : Mem) : sOrB ga gb δ m = (ga δ m).bind fun c m => if c = true then .ok true m else gb δ m := id rfl
@[simp] theorem e_NotB (ga : FB) (δ : DS) (m : Mem) : sNotB ga δ m = (ga δ m).bind fun c m => .ok (!c) m := id rfl
@[simp] theorem e_AndV (fa fb : FE) (δ : DS) (m : Mem) : sAndV fa fb δ m = (fa δ m).bind fun d m => (asB d m).bind fun c m => if c = true then fb δ m else .ok (.p (.bl false)) m := id rfl
@[simp] theorem e_OrV (fa fb : FE) (δ : DS) (m : Mem) : sOrV fa fb δ m = (fa δ m).bind fun d m => (asB d m).bind fun c m => if c = true then .ok (.p (.bl true)) m else fb δ m := id rfl
@[simp] theorem e_NotV (fa : FE) (δ : DS) (m : Mem) : sNotV fa δ m = (fa δ m).bind fun d m => (asB d m).bind fun c m => .ok (.p (.bl (!c))) m := id rfl
@[simp] theorem e_IfE (g : FB) (fa fb : FE) (δ : DS) (m : Mem) : sIfE g fa fb δ m = (g δ m).bind fun c m => if c = true then fa δ m else fb δ m := id rfl
@[simp] theorem e_Nil (δ : DS) (m : Mem) : sNil δ m = .ok [] m := id rfl
@[simp] theorem e_Cons (fa : FE) (fr : FA) (δ : DS) (m : Mem) : sCons fa fr δ m = (fa δ m).bind fun d m => (fr δ m).bind fun ds m => .ok (d :: ds) m := id rfl
@[simp] theorem e_Tup (fr : FA) (δ : DS) (m : Mem) : sTup fr δ m = (fr δ m).bind fun ds m => mkSeq .tup ds m := id rfl
@[simp] theorem e_Lst (fr : FA) (δ : DS) (m : Mem) : sLst fr δ m = (fr δ m).bind fun ds m => mkSeq .lst ds m := id rfl
@[simp] theorem e_LstM (fr : FA) (δ : DS) (m : Mem) : sLstM fr δ m = (fr δ m).bind fun ds m => mkLst ds m := id rfl
@[simp] theorem e_DictK (δ : DS) (m : Mem) : sDictK δ m = .ok (.ref m.length) (m ++ [some (.dK [] [])]) := id rfl
@[simp] theorem e_DictT (δ : DS) (m : Mem) : sDictT δ m = .ok (.ref m.length) (m ++ [some (.dT [] [])]) := id rfl
@[simp] theorem e_Fz (fa : FE) (δ : DS) (m : Mem) : sFz fa δ m = (fa δ m).bind fzD := id rfl
@[simp] theorem fz_p (x : P) (m : Mem) : fzD (.p x) m = .ok (.p x) m := id rfl
def mk1 (f : List P → P) (xs : List P) (m : Mem) : ER D := if xs.length ≤ 16777216 then .ok (.p (f xs)) m else .bad
theorem mkSeq_map (f : List P → P) (xs : List P) (m : Mem) : mkSeq f (xs.map D.p) m = mk1 f xs m := by unfold mkSeq; rw [allP_map]; rfl
def mkO (f : List P → P) (xs : Option (List P)) (m : Mem) : ER D := match xs with
  | some xs => mk1 f xs m
  | none => .bad
@[simp] theorem mkO_some (f : List P → P) (xs : List P) (m : Mem) : mkO f (some xs) m = mk1 f xs m := id rfl
@[simp] theorem mkSeq_eq (f : List P → P) (ds : List D) (m : Mem) : mkSeq f ds m = mkO f (allP ds) m := by
  unfold mkSeq mkO mk1
  cases allP ds <;> rfl
@[simp] theorem mk1_nil (f : List P → P) (m : Mem) : mk1 f [] m = .ok (.p (f [])) m := id rfl
@[simp] theorem mk1_one (f : List P → P) (x : P) (m : Mem) : mk1 f [x] m = .ok (.p (f [x])) m := id rfl
@[simp] theorem mk1_two (f : List P → P) (x y : P) (m : Mem) : mk1 f [x, y] m = .ok (.p (f [x, y])) m := id rfl
@[simp] theorem mk1_three (f : List P → P) (x y z : P) (m : Mem) : mk1 f [x, y, z] m = .ok (.p (f [x, y, z])) m := id rfl
@[simp] theorem mk1_four (f : List P → P) (x y z u : P) (m : Mem) : mk1 f [x, y, z, u] m = .ok (.p (f [x, y, z, u])) m := id rfl
def mkLO (xs : Option (List P)) (m : Mem) : ER D := match xs with
  | some xs => if xs.length ≤ 16777216 then .ok (.ref m.length) (m ++ [some (.lst xs)]) else .bad
  | none => .bad
@[simp] theorem mkLst_eq (ds : List D) (m : Mem) : mkLst ds m = mkLO (allP ds) m := by
  unfold mkLst mkLO
  cases allP ds <;> rfl
@[simp] theorem mkLO_some (xs : List P) (m : Mem) : mkLO (some xs) m = if xs.length ≤ 16777216 then .ok (.ref m.length) (m ++ [some (.lst xs)]) else .bad := id rfl
/-! ### by values -/
def okO (z : Option P) (m : Mem) : ER D := match z with
  | some z => .ok (.p z) m
  | none => .bad
@[simp] theorem okO_some (z : P) (m : Mem) : okO (some z) m = .ok (.p z) m := id rfl
@[simp] theorem op2_eq (g : P → P → Option P) (d e : D) (m : Mem) : op2 g d e m = okO ((view d m).bind fun x => (view e m).bind fun y => g x y) m := by
  unfold op2 okO
  cases ((view d m).bind fun x => (view e m).bind fun y => g x y) <;> rfl
@[simp] theorem op1_eq (g : P → Option P) (d : D) (m : Mem) : op1 g d m = okO ((view d m).bind g) m := by
  unfold op1 okO
  cases ((view d m).bind g) <;> rfl
@[simp] theorem opL_eq (g : List P → Option P) (ds : List D) (m : Mem) : opL g ds m = okO ((views ds m).bind g) m := by
  unfold opL okO
  cases ((views ds m).bind g) <;> rfl
@[simp] theorem views_nil (m : Mem) : views [] m = some [] := id rfl
@[simp] theorem views_cons (d : D) (ds : List D) (m : Mem) : views (d :: ds) m = (view d m).bind fun x => (views ds m).bind fun xs => some (x :: xs) := id rfl
@[simp] theorem seen_lst (xs : List P) : seen (some (some (.lst xs))) = some (.lst xs) := id rfl
@[simp] theorem seen_dK (ks : List Key) (xs : List P) : seen (some (some (.dK ks xs))) = some (.dK ks xs) := id rfl
@[simp] theorem seen_dT (ks xs : List P) : seen (some (some (.dT ks xs))) = some (.dT ks xs) := id rfl
@[simp] theorem e_Call (g : List P → Option P) (fr : FA) (δ : DS) (m : Mem) : sCall g fr δ m = (fr δ m).bind fun ds m => opL g ds m := id rfl
def okL (z : Option (List P)) (m : Mem) : ER D := match z with
  | some z => .ok (.p (.lst z)) m
  | none => .bad
@[simp] theorem okL_some (z : List P) (m : Mem) : okL (some z) m = .ok (.p (.lst z)) m := id rfl
@[simp] theorem e_CallL (g : List P → Option (List P)) (fr : FA) (δ : DS) (m : Mem) : sCallL g fr δ m = (fr δ m).bind fun ds m => okL ((views ds m).bind g) m := by
  show (fr δ m).bind (fun ds m => opNL g ds m) = _
  congr
def okM (z : Option (List P)) (m : Mem) : ER D := match z with
  | some z => .ok (.ref m.length) (m ++ [some (.lst z)])
  | none => .bad
@[simp] theorem okM_some (z : List P) (m : Mem) : okM (some z) m = .ok (.ref m.length) (m ++ [some (.lst z)]) := id rfl
@[simp] theorem e_CallM (g : List P → Option (List P)) (fr : FA) (δ : DS) (m : Mem) : sCallM g fr δ m = (fr δ m).bind fun ds m => okM ((views ds m).bind g) m := by
  show (fr δ m).bind (fun ds m => opNM g ds m) = _
  congr
@[simp] theorem e_Is (f : P → Option Bool) (fa : FE) (δ : DS) (m : Mem) : sIs f fa δ m = (fa δ m).bind fun d m => okO (((view d m).bind f).map .bl) m := by
  show (fa δ m).bind (fun d m => isD f d m) = _
  congr
  funext d m
  unfold isD okO
  cases (view d m).bind f <;> rfl
@[simp] theorem e_Sl (fa : FE) (fl fh : FO) (δ : DS) (m : Mem) : sSl fa fl fh δ m = (fa δ m).bind fun d m => (fl δ m).bind fun lo m => (fh δ m).bind fun hi m => op1 (fun a => pSl a lo hi) d m := id rfl
@[simp] theorem e_NoPart (δ : DS) (m : Mem) : sNoPart δ m = .ok none m := id rfl
def partD (d : D) (m : Mem) : ER (Option Int) := match d with
  | .p (.int i) => .ok (some i) m
  | _ => .bad
@[simp] theorem partD_int (i : Int) (m : Mem) : partD (.p (.int i)) m = .ok (some i) m := id rfl
@[simp] theorem e_Part (fa : FE) (δ : DS) (m : Mem) : sPart fa δ m = (fa δ m).bind partD := by
  show (fa δ m).bind _ = _
  congr
theorem e_Fn0 (S : List D → Mem → ER D) (fr : FA) (δ : DS) (m : Mem) : sFn S fr δ m = (fr δ m).bind fun ds m => S ds m := rfl
@[simp] theorem e_Fn' (S : List D → Mem → ER D) (fr : FA) (δ : DS) (m : Mem) : sFn S fr δ m = (fr δ m).bind S := id rfl
def mtR (z : Option (P × Mem)) : ER D := match z with
  | some (z, m) => .ok (.p z) m
  | none => .bad
@[simp] theorem mtR_some (z : P) (m : Mem) : mtR (some (z, m)) = .ok (.p z) m := id rfl
def isLstV : Option P → Bool
  | some (.lst _) => true
  | _ => false
@[simp] theorem isLstV_lst (xs : List P) : isLstV (some (.lst xs)) = true := id rfl
@[simp] theorem e_Mt (f : D → List D → Mem → Option (P × Mem)) (fo : FE) (fr : FA) (δ : DS) (m : Mem) : sMt f fo fr δ m = (fo δ m).bind fun d m1 => if isLstV (view d m1) = true then (fr δ m1).bind fun ds m2 => mtR (f d ds m2) else .bad := by
  show (fo δ m).bind _ = _
  congr
  funext d m1
  cases view d m1 with
  | none => rfl
  | some x =>
    cases x <;> first
      | rfl
      | (show (fr δ m1).bind _ = (fr δ m1).bind _
         congr
         funext ds m2
         unfold mtR
         cases f d ds m2 <;> rfl)
def rgL (ab : Int × Int) : Option (List P) := if rgOk ab = true then some (upFrom ab.1 (ab.2 - ab.1).toNat) else none
theorem rgL_ok {ab : Int × Int} (h : rgOk ab = true) : rgL ab = some (upFrom ab.1 (ab.2 - ab.1).toNat) := if_pos h
theorem e_listR (fr : DS → Mem → ER (Int × Int)) (δ : DS) (m : Mem) : sListR fr δ m = (fr δ m).bind fun ab m => okL (rgL ab) m := by
  show (fr δ m).bind _ = _
  congr
  funext ab m
  unfold rgL okL
  cases rgOk ab <;> rfl
theorem e_listRM (fr : DS → Mem → ER (Int × Int)) (δ : DS) (m : Mem) : sListRM fr δ m = (fr δ m).bind fun ab m => okM (rgL ab) m := by
  show (fr δ m).bind _ = _
  congr
  funext ab m
  unfold rgL okM
  cases rgOk ab <;> rfl
def r1D (d : D) (m : Mem) : ER (Int × Int) := match d with
  | .p (.int j) => .ok (0, j) m
  | _ => .bad
@[simp] theorem r1D_int (j : Int) (m : Mem) : r1D (.p (.int j)) m = .ok (0, j) m := id rfl
@[simp] theorem e_R1 (fa : FE) (δ : DS) (m : Mem) : sR1 fa δ m = (fa δ m).bind r1D := by
  show (fa δ m).bind _ = _
  congr
/-! ### statements -/
def SR.seq (r : SR) (g : FS) : SR := match r with
  | .nx δ m => g δ m
  | r => r
@[simp] theorem seq_nx (δ : DS) (m : Mem) (g : FS) : (SR.nx δ m).seq g = g δ m := id rfl
@[simp] theorem seq_rt (d : D) (m : Mem) (g : FS) : (SR.rt d m).seq g = .rt d m := id rfl
@[simp] theorem seq_bk (δ : DS) (m : Mem) (g : FS) : (SR.bk δ m).seq g = .bk δ m := id rfl
@[simp] theorem seq_ct (δ : DS) (m : Mem) (g : FS) : (SR.ct δ m).seq g = .ct δ m := id rfl
@[simp] theorem seq_ex (x : P) (δ : DS) (m : Mem) (g : FS) : (SR.ex x δ m).seq g = .ex x δ m := id rfl
@[simp] theorem e_Seq (f g : FS) (δ : DS) (m : Mem) : sSeq f g δ m = (f δ m).seq g := by
  unfold sSeq SR.seq
  cases f δ m <;> rfl
@[simp] theorem e_Nx (δ : DS) (m : Mem) : sNx δ m = .nx δ m := id rfl
@[simp] theorem e_Bad (δ : DS) (m : Mem) : sBad δ m = .bad := id rfl
@[simp] theorem e_Ret (fa : FE) (δ : DS) (m : Mem) : sRet fa δ m = thenS (fa δ m) δ fun d m => .rt d m := id rfl
@[simp] theorem e_Drop (fa : FE) (δ : DS) (m : Mem) : sDrop fa δ m = thenS (fa δ m) δ fun _ m => .nx δ m := id rfl
@[simp] theorem e_IfS (gc : FB) (f g : FS) (δ : DS) (m : Mem) : sIfS gc f g δ m = thenS (gc δ m) δ fun c m => if c = true then f δ m else g δ m := id rfl
def nxO (δ : Option DS) (m : Mem) : SR := match δ with
  | some δ => .nx δ m
  | none => .bad
@[simp] theorem nxO_some (δ : DS) (m : Mem) : nxO (some δ) m = .nx δ m := id rfl
@[simp] theorem e_AsgN (fa : FE) (i : Nat) (δ : DS) (m : Mem) : sAsgN fa i δ m = thenS (fa δ m) δ fun d m => nxO (gN i d δ) m := by
  unfold sAsgN
  congr
@[simp] theorem e_AsgG (fa : FE) (g : FG) (δ : DS) (m : Mem) : sAsgG fa g δ m = thenS (fa δ m) δ fun d m => nxO (g d δ) m := by
  unfold sAsgG
  congr
def nxM (δ : DS) (m : Option Mem) : SR := match m with
  | some m => .nx δ m
  | none => .bad
@[simp] theorem nxM_some (δ : DS) (m : Mem) : nxM δ (some m) = .nx δ m := id rfl
@[simp] theorem e_Sub (fv fo fk : FE) (δ : DS) (m : Mem) : sSub fv fo fk δ m = thenS (fv δ m) δ fun v m => thenS (fo δ m) δ fun o m => thenS (fk δ m) δ fun k m => nxM δ (setM o k v m) := by
  unfold sSub
  congr
@[simp] theorem gN_p (i : Nat) (x : P) (δ : DS) : gN i (.p x) δ = if i < δ.length then some (δ.set i (.p x)) else none := id rfl
@[simp] theorem gN_ref (i j : Nat) (δ : DS) : gN i (.ref j) δ = if i < δ.length then some (δ.set i (.ref j)) else none := id rfl
@[simp] theorem gT_tup (n : Nat) (gs : FGs) (xs : List P) (δ : DS) : gT n gs (.p (.tup xs)) δ = if xs.length = n then gs xs δ else none := id rfl
@[simp] theorem gsN_nil (δ : DS) : gsN [] δ = some δ := id rfl
@[simp] theorem gsC_cons (g : FG) (gs : FGs) (x : P) (xs : List P) (δ : DS) : gsC g gs (x :: xs) δ = (g (.p x) δ).bind (gs xs) := id rfl
@[simp] theorem e_Par2 (fr : FA) (i j : Nat) (δ : DS) (m : Mem) : sPar2 fr i j δ m = thenS (fr δ m) δ fun ds m => match ds with
  | [d, e] => if i < δ.length ∧ j < δ.length then .nx ((δ.set i d).set j e) m else .bad
  | _ => .bad := id rfl
@[simp] theorem e_Par3 (fr : FA) (i j k : Nat) (δ : DS) (m : Mem) : sPar3 fr i j k δ m = thenS (fr δ m) δ fun ds m => match ds with
  | [d, e, f] => if i < δ.length ∧ j < δ.length ∧ k < δ.length then .nx (((δ.set i d).set j e).set k f) m else .bad
  | _ => .bad := id rfl
@[simp] theorem e_For (fi : FI) (g : FG) (fb : FS) (δ : DS) (m : Mem) : sFor fi g fb δ m = thenS (fi δ m) δ fun it m => forL g fb it.ok it.items δ m := id rfl
@[simp] theorem starts_eq (N : List Str) (ds : List D) : starts N ds = ds ++ List.replicate (N.length - ds.length) .und := id rfl
@[simp] theorem e_fnS (N : List Str) (k : Nat) (fb : FS) (ds : List D) (m : Mem) : fnS N k fb ds m = if ds.length = k then fin m.length (fb (starts N ds) m) else .bad := id rfl
@[simp] theorem fin_p (n : Nat) (x : P) (m : Mem) : fin n (.rt (.p x) m) = .ok (.p x) (m.take n) := id rfl
@[simp] theorem fin_nx (n : Nat) (δ : DS) (m : Mem) : fin n (.nx δ m) = .ok (.p .non) (m.take n) := id rfl
/-! ### what is walked -/
def itR (it : Option Itm) (m : Mem) : ER Itm := match it with
  | some it => .ok it m
  | none => .bad
@[simp] theorem itR_some (it : Itm) (m : Mem) : itR (some it) m = .ok it m := id rfl
@[simp] theorem e_It (fa : FE) (δ : DS) (m : Mem) : sIt fa δ m = (fa δ m).bind fun d m => itR (itOf d m) m := by
  show (fa δ m).bind _ = _
  congr
@[simp] theorem itOf_lst (xs : List P) (m : Mem) : itOf (.p (.lst xs)) m = some ⟨xs, fun _ => true⟩ := id rfl
@[simp] theorem itOf_tup (xs : List P) (m : Mem) : itOf (.p (.tup xs)) m = some ⟨xs, fun _ => true⟩ := id rfl
@[simp] theorem itOf_str (x : Str) (m : Mem) : itOf (.p (.str x)) m = some ⟨letters x, fun _ => true⟩ := id rfl
@[simp] theorem e_It1 (fr : FA) (δ : DS) (m : Mem) : sIt1 fr δ m = (fr δ m).bind fun ds m => itR ((rg1 ds).map fun j => ⟨upFrom 0 j.toNat, fun _ => true⟩) m := by
  show (fr δ m).bind _ = _
  congr
  funext d m
  cases rg1 d <;> rfl
@[simp] theorem e_It2 (fr : FA) (δ : DS) (m : Mem) : sIt2 fr δ m = (fr δ m).bind fun ds m => itR ((rg2 ds).map fun q => ⟨upFrom q.1 (q.2 - q.1).toNat, fun _ => true⟩) m := by
  show (fr δ m).bind _ = _
  congr
  funext d m
  cases rg2 d <;> rfl
@[simp] theorem rg1_int (j : Int) : rg1 [.p (.int j)] = if -(2 ^ 62) ≤ j ∧ j < 2 ^ 62 then some j else none := id rfl
@[simp] theorem rg2_int (i j : Int) : rg2 [.p (.int i), .p (.int j)] = if -(2 ^ 62) ≤ i ∧ i < 2 ^ 62 ∧ -(2 ^ 62) ≤ j ∧ j < 2 ^ 62 then some (i, j) else none := id rfl
@[simp] theorem e_ItE (fr : FA) (δ : DS) (m : Mem) : sItE fr δ m = (fr δ m).bind fun ds m => match ds with
  | [d] => (match itOf d m with
    | some it => if isStr (view d m) = true then .bad else .ok ⟨numd it.items, it.ok⟩ m
    | none => .bad)
  | _ => .bad := id rfl
@[simp] theorem e_ItZ (fr : FA) (δ : DS) (m : Mem) : sItZ fr δ m = (fr δ m).bind fun ds m => match ds with
  | [d, e] => (match itOf d m, itOf e m, view d m, view e m with
    | some it, some it2, some (.lst _), some (.lst _) => .ok ⟨paird it.items it2.items, fun m => it.ok m && it2.ok m⟩ m
    | some it, some it2, some (.tup _), some (.tup _) => .ok ⟨paird it.items it2.items, fun m => it.ok m && it2.ok m⟩ m
    | _, _, _, _ => .bad)
  | _ => .bad := id rfl
@[simp] theorem isStr_lst (xs : List P) : isStr (some (.lst xs)) = false := id rfl
@[simp] theorem isStr_tup (xs : List P) : isStr (some (.tup xs)) = false := id rfl
@[simp] theorem e_Lc (fi : FI) (g : FG) (ft : FB) (fe : FE) (vs : List Nat) (δ : DS) (m : Mem) : sLc fi g ft fe vs δ m = (fi δ m).bind fun it m => (compL g ft (elt fe) it.ok (wipeD δ vs) it.items m).bindN mkL := id rfl
@[simp] theorem e_Lc2 (fi : FI) (g : FG) (ft : FB) (fi1 : FI) (g1 : FG) (ft1 : FB) (fe : FE) (vs vs1 : List Nat) (δ : DS) (m : Mem) : sLc2 fi g ft fi1 g1 ft1 fe vs vs1 δ m = (fi δ m).bind fun it m => (compL g ft (inner fi1 g1 ft1 fe vs1) it.ok (wipeD δ vs) it.items m).bindN mkL := id rfl
@[simp] theorem e_Yes (δ : DS) (m : Mem) : sYes δ m = .ok true m := id rfl
@[simp] theorem wipeD_nil (δ : DS) : wipeD δ [] = δ := id rfl
@[simp] theorem wipeD_cons (δ : DS) (v : Nat) (vs : List Nat) : wipeD δ (v :: vs) = (wipeD δ vs).set v .und := id rfl
theorem elt_ok {fe : FE} {δ : DS} {m m' : Mem} {y : P} (h : fe δ m = .ok (.p y) m') : elt fe δ m = .ok [y] m' := by
  unfold elt
  rw [h]
  rfl
/-- a comprehension whose elements all come out without a look at what is written -/
theorem compL_pure {g : FG} {ft : FB} {fe : FE} {δ : DS} {m : Mem} (t : P → Bool) (v : P → P) : ∀ {xs : List P}, (∀ x ∈ xs, ∃ δ1, g (.p x) δ = some δ1 ∧ ft δ1 m = .ok (t x) m ∧ (t x = true → fe δ1 m = .ok (.p (v x)) m)) →
    compL g ft (elt fe) (fun _ => true) δ xs m = .ok ((xs.filter t).map v) m
  | [], _ => rfl
  | x :: xs, h => by
    obtain ⟨δ1, h1, h2, h3⟩ := h x List.mem_cons_self
    have ih := compL_pure t v (xs := xs) fun y hy => h y (List.mem_cons_of_mem _ hy)
    unfold compL
    rw [if_pos rfl, h1]
    dsimp only
    rw [h2]
    dsimp only [ER.bindN_ok]
    cases ht : t x with
    | false => rw [if_neg (by decide), ih, List.filter_cons_of_neg (by rw [ht]; decide)]
    | true =>
      rw [if_pos rfl, List.filter_cons_of_pos ht, List.map_cons]
      rw [elt_ok (h3 ht), ER.bindN_ok, ih]
      rfl
@[simp] theorem mkL_le {xs : List P} {m : Mem} (h : xs.length ≤ 16777216) : mkL xs m = .ok (.p (.lst xs)) m := by unfold mkL; rw [if_pos h]
end DL

set_option Elab.async false
set_option linter.all false
set_option maxRecDepth 100000
set_option maxHeartbeats 1000000
/-! Plain part b: the draws. -/
noncomputable section
namespace DL
open PySem PySem.Spec PyProof.Rows L2
/-! ### lists of whole numbers -/
def nmL (xs : List Int) : P := .lst (xs.map .int)
theorem plainL_ints : ∀ xs : List Int, P.plainL (xs.map .int) = true
  | [] => rfl
  | x :: xs => by rw [List.map_cons, P.plainL, plainL_ints xs]; rfl
theorem depL_ints : ∀ xs : List Int, P.depL (xs.map .int) = 0
  | [] => rfl
  | x :: xs => by rw [List.map_cons, P.depL, depL_ints xs]; rfl
theorem fit_ints (xs : List Int) : (nmL xs).fit = true := by simp [nmL, P.fit, P.plain, P.dep, plainL_ints, depL_ints]
@[simp] theorem ne_nil (xs : List Int) : pNe (nmL xs) (.lst []) = some (.bl (!xs.isEmpty)) := by
  unfold pNe
  rw [if_pos ⟨fit_ints xs, by simp [P.plain, P.plainL]⟩]
  cases xs <;> simp [nmL, P.eqv, P.eqvL]
@[simp] theorem eq_int (i j : Int) : pEq (.int i) (.int j) = some (.bl (decide (i = j))) := by simp [pEq, P.eqv, P.fit, P.plain, P.dep]
@[simp] theorem nmL_0 (x : Int) (xs : List Int) : pIx (nmL (x :: xs)) (.int 0) = some (.int x) := by simp [nmL, pIx, atI, ixN]
@[simp] theorem nmL_1 (x : Int) (xs : List Int) : pSl (nmL (x :: xs)) (some 1) none = some (nmL xs) := by
  have e : HT.sIx (xs.length + 1) 0 (some 1) = 1 := by
    have := HT.sIx_nat (xs.length + 1) 0 1
    simp at this
    exact this
  simp [nmL, pSl, cut, e, HT.sIx_none]
  rw [List.take_of_length_le (by simp)]
@[simp] theorem nmL_add (x : Int) (xs : List Int) (h : xs.length ≤ 10000000) : pAdd (.lst [.int x]) (nmL xs) = some (nmL (x :: xs)) := by
  unfold pAdd nmL
  simp
  omega
/-! ### the law's own state -/
structure Rnd where
  g : List Int
  s : Int
  a : Int
def kG : Key := .inr "great"
def kS : Key := .inr "seed"
def kA : Key := .inr "at"
def Rnd.d (t : Rnd) : P := .dK [kG, kS, kA] [nmL t.g, .int t.s, .int t.a]
def Rnd.mo (t : Rnd) : Option MO := some (.dK [kG, kS, kA] [nmL t.g, .int t.s, .int t.a])
/-- n more draws may be made -/
structure Rnd.Ok (n : Nat) (t : Rnd) : Prop where
  len : t.g.length ≤ 63
  pos : 0 ≤ t.a
  few : t.a + n ≤ 2 ^ 60
theorem Rnd.Ok.le {n k : Nat} {t : Rnd} (h : t.Ok n) (hk : k ≤ n) : t.Ok k := ⟨h.len, h.pos, by have := h.few; omega⟩
@[simp] theorem ix_G (t : Rnd) : pIx t.d (.str "great") = some (nmL t.g) := by
  simp (decide := true) [Rnd.d, pIx, P.ky, lookK, kG, kS, kA]
@[simp] theorem ix_S (t : Rnd) : pIx t.d (.str "seed") = some (.int t.s) := by
  simp (decide := true) [Rnd.d, pIx, P.ky, lookK, kG, kS, kA]
@[simp] theorem ix_A (t : Rnd) : pIx t.d (.str "at") = some (.int t.a) := by
  simp (decide := true) [Rnd.d, pIx, P.ky, lookK, kG, kS, kA]
@[simp] theorem seen0 (t : Rnd) : seen (some t.mo) = some t.d := id rfl
@[simp] theorem set_G (t : Rnd) (r : Mem) (g : List Int) : setM (.ref 0) (.p (.str "great")) (.p (nmL g)) (t.mo :: r) = some (({ t with g := g } : Rnd).mo :: r) := by
  simp (decide := true) [setM, setO, P.ky, Rnd.mo, putJ, putA, kG, kS, kA]
@[simp] theorem set_A (t : Rnd) (r : Mem) (a : Int) : setM (.ref 0) (.p (.str "at")) (.p (.int a)) (t.mo :: r) = some (({ t with a := a } : Rnd).mo :: r) := by
  simp (decide := true) [setM, setO, P.ky, Rnd.mo, putJ, putA, kG, kS, kA]
/-- the great ones that are spent are left -/
def Rnd.skip (t : Rnd) : Rnd := { t with g := t.g.dropWhile (· = 0) }
abbrev dC : FB := (sAndB (sB (sOp pNe (sOp pIx (sName 0) (sC (.str "great"))) (sLst sNil))) (sB (sOp pEq (sOp pIx (sOp pIx (sName 0) (sC (.str "great"))) (sC (.int 0))) (sC (.int 0)))))
abbrev dB : FS := (sSub (sSl (sOp pIx (sName 0) (sC (.str "great"))) (sPart (sC (.int 1))) sNoPart) (sName 0) (sC (.str "great")))
theorem draw_while (δ : DS) (r : Mem) : ∀ (g : List Int) (s a : Int), whileF dC dB (g.length + 1) (.ref 0 :: δ) ((⟨g, s, a⟩ : Rnd).mo :: r) = .nx (.ref 0 :: δ) ((⟨g, s, a⟩ : Rnd).skip.mo :: r)
  | [], s, a => by
    rw [whileF]
    simp [Rnd.skip]
  | x :: g, s, a => by
    rw [List.length_cons, whileF]
    by_cases hx : x = 0
    · subst hx
      have ih := draw_while δ r g s a
      simp [Rnd.skip] at ih ⊢
      exact ih
    · simp [Rnd.skip, hx]
theorem draw_while' (δ : DS) (r : Mem) (t : Rnd) : sWhile dC dB (.ref 0 :: δ) (t.mo :: r) = .nx (.ref 0 :: δ) (t.skip.mo :: r) := by
  rw [sWhile_eq (n := t.g.length + 1) (by rw [draw_while δ r t.g t.s t.a]; simp), draw_while δ r t.g t.s t.a]
@[simp] theorem pAdd_int (i j : Int) : pAdd (.int i) (.int j) = some (.int (i + j)) := id rfl
@[simp] theorem pSub_int (i j : Int) : pSub (.int i) (.int j) = some (.int (i - j)) := id rfl
@[simp] theorem pNeg_int (i : Int) : pNeg (.int i) = some (.int (-i)) := id rfl
theorem pMul_l {i j : Int} (h : -(2 ^ 64) < i ∧ i < 2 ^ 64) : pMul (.int i) (.int j) = some (.int (i * j)) := if_pos (.inl h)
theorem pMul_r {i j : Int} (h : -(2 ^ 64) < j ∧ j < 2 ^ 64) : pMul (.int i) (.int j) = some (.int (i * j)) := if_pos (.inr h)
theorem pMod_int {i j : Int} (h : 0 < j) : pMod (.int i) (.int j) = some (.int (i % j)) := if_pos h
theorem pDiv_int {i j : Int} (h : 0 < j) (h2 : j < 1073741824) : pDiv (.int i) (.int j) = some (.int (i / j)) := if_pos ⟨h, h2⟩
@[simp] theorem gInt_int (i : Int) : gInt [.int i] = some (.int i) := id rfl
/-- a number under top is drawn -/
theorem draw_ok {n : Nat} {t : Rnd} (h : t.Ok (n + 1)) {top : Int} (h0 : 0 < top) (h1 : top < 1073741824) (r : Mem) :
    ∃ (v : Int) (t' : Rnd), s__law_draw [.ref 0, .p (.int top)] (t.mo :: r) = .ok (.p (.int v)) (t'.mo :: r) ∧ 0 ≤ v ∧ v < top ∧ t'.Ok n := by
  have hl : t.skip.g.length ≤ 63 := Nat.le_trans (List.dropWhile_suffix _).length_le h.len
  have ha : t.skip.a = t.a := rfl
  unfold s__law_draw b__law_draw
  simp only [e_fnS, starts_eq, n__law_draw, List.length_cons, List.length_nil]
  simp [List.replicate_succ, draw_while']
  generalize t.skip = u at hl ha ⊢
  obtain ⟨g, s, a⟩ := u
  have h2 := h.pos
  have h3 := h.few
  have ha' : a = t.a := ha
  subst ha'
  cases g with
  | nil =>
    have m1 : ∀ j, pMul (.int 7919) (.int j) = some (.int (7919 * j)) := fun j => pMul_l (by decide)
    have m2 : ∀ j, pMul (.int 104729) (.int j) = some (.int (104729 * j)) := fun j => pMul_l (by decide)
    have m3 : ∀ i, pMul (.int i) (.int 69621) = some (.int (i * 69621)) := fun j => pMul_r (by decide)
    have m4 : ∀ i, pMul (.int i) (.int 48271) = some (.int (i * 48271)) := fun j => pMul_r (by decide)
    have m5 : ∀ j, pMul (.int 31) (.int j) = some (.int (31 * j)) := fun j => pMul_l (by decide)
    have m6 : ∀ i, pMul (.int i) (.int (t.a + 1)) = some (.int (i * (t.a + 1))) := fun i => pMul_r (by omega)
    have q1 : ∀ i, pMod (.int i) (.int 2147483629) = some (.int (i % 2147483629)) := fun i => pMod_int (by decide)
    have q2 : ∀ i, pMod (.int i) (.int 2147483587) = some (.int (i % 2147483587)) := fun i => pMod_int (by decide)
    have q3 : ∀ i, pDiv (.int i) (.int 11) = some (.int (i / 11)) := fun i => pDiv_int (by decide) (by decide)
    have q4 : ∀ i, pMod (.int i) (.int top) = some (.int (i % top)) := fun i => pMod_int h0
    simp [m1, m2, m3, m4, m5, m6, q1, q2, q3, q4]
    refine ⟨_, _, ⟨rfl, rfl⟩, Int.emod_nonneg _ (by omega), Int.emod_lt_of_pos _ h0, ⟨hl, ?_, ?_⟩⟩
    · show 0 ≤ t.a + 1
      omega
    · show t.a + 1 + (n : Int) ≤ 2 ^ 60
      omega
  | cons x g =>
    have q3 : ∀ i, pDiv (.int i) (.int top) = some (.int (i / top)) := fun i => pDiv_int h0 h1
    have q4 : ∀ i, pMod (.int i) (.int top) = some (.int (i % top)) := fun i => pMod_int h0
    have hg : g.length ≤ 10000000 := by
      have : g.length + 1 ≤ 63 := hl
      omega
    simp [q3, q4, nmL_add _ _ hg]
    refine ⟨_, _, ⟨rfl, rfl⟩, Int.emod_nonneg _ (by omega), Int.emod_lt_of_pos _ h0, ⟨by simpa using hl, h2, ?_⟩⟩
    show t.a + (n : Int) ≤ 2 ^ 60
    omega
end DL

set_option Elab.async false
set_option linter.all false
set_option maxRecDepth 100000
set_option maxHeartbeats 1000000
/-! Plain part c: drawn things: words, edges, orders. -/
noncomputable section
namespace DL
open PySem PySem.Spec PyProof.Rows L2
/-! ### one of several -/
@[simp] theorem gLen_lst (xs : List P) : gLen [.lst xs] = some (.int xs.length) := id rfl
@[simp] theorem gLen_tup (xs : List P) : gLen [.tup xs] = some (.int xs.length) := id rfl
theorem ix_lst {xs : List P} {v : Int} (h0 : 0 ≤ v) (h1 : v < xs.length) : ∃ x ∈ xs, pIx (.lst xs) (.int v) = some x := by
  have hl : v.toNat < xs.length := by omega
  refine ⟨xs[v.toNat], List.getElem_mem hl, ?_⟩
  simp [pIx, atI, ixN, h0, h1, hl]
theorem some_ok {n : Nat} {t : Rnd} (h : t.Ok (n + 1)) {xs : List P} (h0 : 0 < xs.length) (h1 : xs.length < 1073741824) (r : Mem) :
    ∃ x ∈ xs, ∃ t' : Rnd, s__law_some [.ref 0, .p (.lst xs)] (t.mo :: r) = .ok (.p x) (t'.mo :: r) ∧ t'.Ok n := by
  obtain ⟨v, t', e, v0, v1, ok⟩ := draw_ok h (top := (xs.length : Int)) (by omega) (by omega) r
  obtain ⟨x, hx, ex⟩ := ix_lst v0 v1
  refine ⟨x, hx, t', ?_, ok⟩
  unfold s__law_some b__law_some
  simp [List.replicate_succ, n__law_some, e, ex]
/-! ### the words of an edge -/
def txs (q : List Str) : P := .tup (q.map .str)
def asksT : List (List Str) := [[], [], ["over"], ["over"], ["calm"], ["unheld"], ["held"], ["rung"], ["calm", "over"], ["held", "over"], ["over", "unheld"], ["over", "rung"], ["held", "rung"]]
def deedsT : List Str := ["go", "go", "hold", "give", "hush"]
theorem asks_ok {n : Nat} {t : Rnd} (h : t.Ok (n + 1)) (r : Mem) : ∃ q ∈ asksT, ∃ t' : Rnd, s__law_asks [.ref 0] (t.mo :: r) = .ok (.p (txs q)) (t'.mo :: r) ∧ t'.Ok n := by
  obtain ⟨x, hx, t', e, ok⟩ := some_ok h (xs := asksT.map txs) (by decide) (by decide) r
  obtain ⟨q, hq, rfl⟩ := List.mem_map.mp hx
  refine ⟨q, hq, t', ?_, ok⟩
  simp [asksT, txs] at e
  unfold s__law_asks b__law_asks
  simp [List.replicate_succ, n__law_asks, mk1, pAdd, e, txs]
structure Edge where
  b : Int
  q : List Str
  w : Str
  e : Int
def Edge.p (x : Edge) : P := .tup [.int x.b, txs x.q, .str x.w, .int x.e]
structure Edge.Ok (k : Int) (x : Edge) : Prop where
  b0 : 0 ≤ x.b
  b1 : x.b < k
  e0 : 0 ≤ x.e
  e1 : x.e < k
  q : x.q ∈ asksT
  w : x.w ∈ deedsT
theorem edge_ok {n : Nat} {t : Rnd} (h : t.Ok (n + 2)) {k b e : Int} (b0 : 0 ≤ b) (b1 : b < k) (e0 : 0 ≤ e) (e1 : e < k) (r : Mem) :
    ∃ x : Edge, x.Ok k ∧ ∃ t' : Rnd, s__law_edge [.ref 0, .p (.int b), .p (.int e)] (t.mo :: r) = .ok (.p x.p) (t'.mo :: r) ∧ t'.Ok n := by
  obtain ⟨q, hq, t1, ea, ok1⟩ := asks_ok h r
  obtain ⟨x, hx, t2, es, ok2⟩ := some_ok ok1 (xs := deedsT.map .str) (by decide) (by decide) r
  obtain ⟨w, hw, rfl⟩ := List.mem_map.mp hx
  refine ⟨⟨b, q, w, e⟩, ⟨b0, b1, e0, e1, hq, hw⟩, t2, ?_, ok2⟩
  simp [deedsT] at es
  unfold s__law_edge b__law_edge
  simp [List.replicate_succ, n__law_edge, mk1, ea, es, Edge.p]
end DL

set_option Elab.async false
set_option linter.all false
set_option maxRecDepth 100000
set_option maxHeartbeats 1000000
/-! Plain part d: drawn orders. -/
noncomputable section
namespace DL
open PySem PySem.Spec PyProof.Rows L2
/-! ### lists of whole numbers that are written to -/
def nmM (xs : List Int) : Option MO := some (.lst (xs.map .int))
@[simp] theorem seen_nmM (xs : List Int) : seen (some (nmM xs)) = some (nmL xs) := id rfl
@[simp] theorem isLstV_nmL (xs : List Int) : isLstV (some (nmL xs)) = true := id rfl
@[simp] theorem gLen_nmL (xs : List Int) : gLen [nmL xs] = some (.int xs.length) := by simp [nmL, gLen]
theorem eraseIdx_mapD {α β : Type} (f : α → β) : ∀ (xs : List α) (i : Nat), (xs.map f).eraseIdx i = (xs.eraseIdx i).map f
  | [], i => by simp
  | x :: xs, 0 => rfl
  | x :: xs, i + 1 => by simp [eraseIdx_mapD f xs i]
theorem pop_nmM {m : Mem} {i : Nat} {xs : List Int} {v : Int} (h : m[i]? = some (nmM xs)) (v0 : 0 ≤ v) (v1 : v < xs.length) (hl : xs.length < 1000000) :
    onLst fPop1 (.ref i) [.p (.int v)] m = some (.int (xs[v.toNat]'(by omega)), m.set i (nmM (xs.eraseIdx v.toNat))) := by
  have hv : v.toNat < xs.length := by omega
  have e : (ixN (xs.map P.int).length v) = some v.toNat := by simp [ixN, v0, v1]
  have c : -(2 ^ 63) ≤ v ∧ v < 2 ^ 63 := by omega
  unfold onLst
  simp only [h, nmM, allP_cons, allP_nil, Option.map_some]
  unfold fPop1
  dsimp only
  rw [if_pos c, e]
  simp [hv, eraseIdx_mapD]
theorem app_nmM {m : Mem} {i : Nat} {xs : List Int} {x : Int} (h : m[i]? = some (nmM xs)) (hl : xs.length < 1000000) :
    onLst fAppend (.ref i) [.p (.int x)] m = some (.non, m.set i (nmM (xs ++ [x]))) := by
  unfold onLst
  simp only [h, nmM, allP_cons, allP_nil, Option.map_some]
  unfold fAppend
  dsimp only
  rw [if_pos (by simp; omega)]
  simp
/-! ### memory with two objects of one's own -/
section
variable {a : Option MO} {r : Mem} {x y z : Option MO}
@[simp] theorem m2_at0 : (a :: (r ++ [x, y]))[r.length + 1]? = some x := by simp
@[simp] theorem m2_at1 : (a :: (r ++ [x, y]))[r.length + 2]? = some y := by simp
@[simp] theorem m2_set0 : (a :: (r ++ [x, y])).set (r.length + 1) z = a :: (r ++ [z, y]) := by simp
@[simp] theorem m2_set1 : (a :: (r ++ [x, y])).set (r.length + 2) z = a :: (r ++ [x, z]) := by simp
end
abbrev oC : FB := (sB (sOp pNe (sName 2) (sLst sNil)))
abbrev oB : FS := (sDrop (sMt (onLst fAppend) (sName 3) (sCons (sMt (onLst fPop1) (sName 2) (sCons (sFn s__law_draw (sCons (sName 0) (sCons (sCall gLen (sCons (sName 2) sNil)) sNil))) sNil)) sNil)))
theorem perm_erase {xs : List Int} {k : Nat} (h : k < xs.length) : (xs[k] :: xs.eraseIdx k).Perm xs := by
  induction xs generalizing k with
  | nil => simp at h
  | cons x xs ih =>
    cases k with
    | zero => simp
    | succ k =>
      simp only [List.getElem_cons_succ, List.eraseIdx_cons_succ]
      exact (List.Perm.swap _ _ _).trans ((ih (by simpa using h)).cons _)
theorem order_while {n : Nat} (r : Mem) (many : D) : ∀ (k : Nat) (xs ys : List Int) (t : Rnd), xs.length = k → t.Ok (n + k) → xs.length + ys.length < 1000 →
    ∃ (zs : List Int) (t' : Rnd), whileF oC oB (k + 1) [.ref 0, many, .ref (r.length + 1), .ref (r.length + 2)] (t.mo :: (r ++ [nmM xs, nmM ys])) = .nx [.ref 0, many, .ref (r.length + 1), .ref (r.length + 2)] (t'.mo :: (r ++ [nmM [], nmM (ys ++ zs)])) ∧ zs.Perm xs ∧ t'.Ok n
  | 0, xs, ys, t, hk, ok, hl => by
    have hx : xs = [] := List.eq_nil_of_length_eq_zero hk
    subst hx
    refine ⟨[], t, ?_, .refl _, ok⟩
    rw [whileF]
    simp
  | k + 1, xs, ys, t, hk, ok, hl => by
    have hne : xs.isEmpty = false := by cases xs with
      | nil => simp at hk
      | cons x xs => rfl
    obtain ⟨v, t1, e, v0, v1, ok1⟩ := draw_ok (n := n + k) (t := t) ok (top := (xs.length : Int)) (by omega) (by omega) (r ++ [nmM xs, nmM ys])
    have hv : v.toNat < xs.length := by omega
    have e1 : onLst fPop1 (.ref (r.length + 1)) [.p (.int v)] (t1.mo :: (r ++ [nmM xs, nmM ys])) = some (.int (xs[v.toNat]'hv), t1.mo :: (r ++ [nmM (xs.eraseIdx v.toNat), nmM ys])) := by
      rw [pop_nmM m2_at0 v0 v1 (by omega), m2_set0]
    have e2 : onLst fAppend (.ref (r.length + 2)) [.p (.int (xs[v.toNat]'hv))] (t1.mo :: (r ++ [nmM (xs.eraseIdx v.toNat), nmM ys])) = some (.non, t1.mo :: (r ++ [nmM (xs.eraseIdx v.toNat), nmM (ys ++ [xs[v.toNat]])])) := by
      rw [app_nmM m2_at1 (by omega), m2_set1]
    have hl' : (xs.eraseIdx v.toNat).length = k := by rw [List.length_eraseIdx, if_pos hv]; omega
    obtain ⟨zs, t', e3, pz, ok'⟩ := order_while r many k (xs.eraseIdx v.toNat) (ys ++ [xs[v.toNat]]) t1 hl' ok1 (by rw [hl']; simp; omega)
    refine ⟨xs[v.toNat] :: zs, t', ?_, (pz.cons _).trans (perm_erase hv), ok'⟩
    rw [whileF]
    simp only [oC, oB] at e3 ⊢
    simp [hne, e, e1, e2]
    rw [e3]
    simp
theorem rgOk_nat {k : Nat} (hk : k < 100) : rgOk (0, (k : Int)) = true := by
  unfold rgOk
  refine decide_eq_true ⟨?_, ?_, ?_, ?_, ?_⟩
  · show -(2 ^ 62) ≤ (0 : Int)
    decide
  · show (0 : Int) < 2 ^ 62
    decide
  · show -(2 ^ 62) ≤ (k : Int)
    omega
  · show (k : Int) < 2 ^ 62
    omega
  · show ((k : Int) - 0).toNat ≤ 16777216
    omega
/-- 0, 1, .. -/
def numsTo (k : Nat) : List Int := (List.range k).map fun (i : Nat) => (i : Int)
theorem numsTo_len (k : Nat) : (numsTo k).length = k := by simp [numsTo]
theorem r1_int {fa : FE} {δ : DS} {m m' : Mem} {k : Int} (h : fa δ m = .ok (.p (.int k)) m') : sR1 fa δ m = .ok (0, k) m' := by
  rw [e_R1, h]
  rfl
theorem listRM_of {fr : DS → Mem → ER (Int × Int)} {δ : DS} {m m' : Mem} {k : Int} {l : List P} (h : fr δ m = .ok (0, k) m') (e : rgL (0, k) = some l) : sListRM fr δ m = .ok (.ref m'.length) (m' ++ [some (.lst l)]) := by
  rw [e_listRM, h, ER.bind_ok, e]
  rfl
theorem listRM_nat {fa : FE} {δ : DS} {m m' : Mem} {k : Nat} (hk : k < 100) (h : fa δ m = .ok (.p (.int k)) m') : sListRM (sR1 fa) δ m = .ok (.ref m'.length) (m' ++ [nmM (numsTo k)]) := by
  have hu : upFrom 0 k = (numsTo k).map P.int := by simp [upFrom, numsTo]
  have er : rgL (0, (k : Int)) = some (upFrom 0 k) := (rgL_ok (rgOk_nat hk)).trans (by simp)
  rw [listRM_of (r1_int h) er, hu]
  rfl
theorem order_ok {n : Nat} {t : Rnd} {k : Nat} (h : t.Ok (n + k)) (hk : k < 100) (r : Mem) :
    ∃ (zs : List Int) (t' : Rnd), s__law_order [.ref 0, .p (.int k)] (t.mo :: r) = .ok (.p (nmL zs)) (t'.mo :: r) ∧ zs.Perm (numsTo k) ∧ t'.Ok n := by
  obtain ⟨zs, t', e, pz, ok⟩ := order_while r (.p (.int k)) k (numsTo k) [] t (numsTo_len k) h (by rw [numsTo_len]; simp; omega)
  refine ⟨zs, t', ?_, pz, ok⟩
  have ew : sWhile oC oB [.ref 0, .p (.int k), .ref (r.length + 1), .ref (r.length + 2)] (t.mo :: (r ++ [nmM (numsTo k), nmM []])) = .nx [.ref 0, .p (.int k), .ref (r.length + 1), .ref (r.length + 2)] (t'.mo :: (r ++ [nmM [], nmM ([] ++ zs)])) := by
    rw [sWhile_eq (n := k + 1) (by rw [e]; simp), e]
  have eR : sListRM (sR1 (sName 1)) [.ref 0, .p (.int k), .und, .und] (t.mo :: r) = .ok (.ref (r.length + 1)) (t.mo :: (r ++ [nmM (numsTo k)])) := listRM_nat hk (show sName 1 [.ref 0, .p (.int k), .und, .und] (t.mo :: r) = .ok (.p (.int k)) (t.mo :: r) from rfl)
  unfold s__law_order b__law_order
  simp only [oC, oB] at ew
  simp [List.replicate_succ, n__law_order, eR]
  have e2 : List.length r + 1 + 1 = List.length r + 2 := rfl
  have e3 : (some (.lst []) : Option MO) = nmM [] := rfl
  rw [e2, e3, ew]
  have e4 : fzO (some (nmM zs)) = some (nmL zs) := rfl
  simp [fzD, e4]
end DL

set_option Elab.async false
set_option linter.all false
set_option maxRecDepth 100000
set_option maxHeartbeats 1000000
/-! Plain part e: edges as data, their order. -/
noncomputable section
namespace DL
open PySem PySem.Spec PyProof.Rows L2
/-! ### rows of texts -/
theorem plainL_txs : ∀ q : List Str, P.plainL (q.map .str) = true
  | [] => rfl
  | x :: q => by rw [List.map_cons, P.plainL, plainL_txs q]; rfl
theorem depL_txs : ∀ q : List Str, P.depL (q.map .str) = 0
  | [] => rfl
  | x :: q => by rw [List.map_cons, P.depL, depL_txs q]; rfl
theorem keyedL_txs : ∀ q : List Str, P.keyedL (q.map .str) = true
  | [] => rfl
  | x :: q => by rw [List.map_cons, P.keyedL, keyedL_txs q]; rfl
theorem alike_txs : ∀ q q' : List Str, PySem.W.alikeAll (P.pyL (q.map .str)) (P.pyL (q'.map .str)) = true
  | [], q' => by simp [P.pyL, PySem.W.alikeAll]
  | x :: q, [] => by simp [P.pyL, PySem.W.alikeAll]
  | x :: q, y :: q' => by
    rw [List.map_cons, List.map_cons, P.pyL, P.pyL, PySem.W.alikeAll, alike_txs q q']
    simp [P.py, PySem.W.alike]
theorem eqvL_txs : ∀ {q q' : List Str}, P.eqvL (q.map .str) (q'.map .str) = true → q = q'
  | [], [], _ => rfl
  | [], y :: q', h => by simp [P.eqvL] at h
  | x :: q, [], h => by simp [P.eqvL] at h
  | x :: q, y :: q', h => by
    rw [List.map_cons, List.map_cons, P.eqvL, Bool.and_eq_true] at h
    have h1 : x = y := by simpa [P.eqv] using h.1
    rw [h1, eqvL_txs h.2]
theorem nkL_txs : ∀ {q q' : List Str}, P.nkL (q.map .str) = P.nkL (q'.map .str) → q = q'
  | [], [], _ => rfl
  | [], y :: q', h => by simp [P.nkL] at h
  | x :: q, [], h => by simp [P.nkL] at h
  | x :: q, y :: q', h => by
    rw [List.map_cons, List.map_cons, P.nkL, P.nkL] at h
    injection h with h1 h2
    have h3 : x = y := by simpa [P.nk] using h1
    rw [h3, nkL_txs h2]
theorem nkd_txs : ∀ q : List Str, NestedKey.depthAll (P.nkL (q.map .str)) = 0
  | [] => by simp [P.nkL, NestedKey.depthAll]
  | x :: q => by
    rw [List.map_cons, P.nkL, NestedKey.depthAll, nkd_txs q]
    simp [P.nk, NestedKey.depth]
/-! ### edges -/
namespace Edge
variable {x y : Edge}
theorem plain (x : Edge) : x.p.plain = true := by simp [Edge.p, txs, P.plain, P.plainL, plainL_txs]
theorem dep (x : Edge) : x.p.dep = 2 := by simp [Edge.p, txs, P.dep, P.depL, depL_txs]
theorem fit (x : Edge) : x.p.fit = true := by simp [P.fit, plain, dep]
theorem alike (x y : Edge) : PySem.W.alike x.p.py y.p.py = true := by
  simp [Edge.p, txs, P.py, P.pyL, PySem.W.alike, PySem.W.alikeAll, alike_txs]
theorem eqv (h : P.eqv x.p y.p = true) : x = y := by
  obtain ⟨b, q, w, e⟩ := x
  obtain ⟨b', q', w', e'⟩ := y
  simp only [Edge.p, txs, P.eqv, P.eqvL, Bool.and_eq_true, decide_eq_true_eq] at h
  obtain ⟨h1, h2, h3, h4, _⟩ := h
  rw [h1, eqvL_txs h2, h3, h4]
theorem nk (h : x.p.nk = y.p.nk) : x = y := by
  obtain ⟨b, q, w, e⟩ := x
  obtain ⟨b', q', w', e'⟩ := y
  simp only [Edge.p, txs, P.nk, P.nkL, NestedKey.tup.injEq, List.cons.injEq, NestedKey.num.injEq, NestedKey.text.injEq] at h
  obtain ⟨h1, h2, h3, h4, _⟩ := h
  rw [h1, nkL_txs h2, h3, h4]
theorem keyD (x : Edge) : x.p.keyD = true := by
  simp [P.keyD, Edge.p, txs, P.keyed, P.keyedL, keyedL_txs, P.nk, P.nkL, NestedKey.depth, NestedKey.depthAll, nkd_txs]
end Edge
/-! ### the order of data -/
theorem toks_eq {a b : PyData} (h : PySem.W.alike a b = true) (e : PySem.W.keyToks a = PySem.W.keyToks b) : PyData.eqv a b = true := by
  cases q : PyData.eqv a b with
  | true => rfl
  | false =>
    have z := (PySem.W.toks_eqv a b h).2 q [] [.inl 0]
    rw [e, PyProof.Rows.lex_irrefl, PySem.W.lex_pre] at z
    exact absurd z (by decide)
theorem lt_total {a b : P} (pa : a.plain = true) (pb : b.plain = true) (h : PySem.W.alike a.py b.py = true) (h1 : PySem.W.dataLt a.py b.py = false) (h2 : PySem.W.dataLt b.py a.py = false) : P.eqv a b = true := by
  rw [← P.eqv_py a b pa pb]
  exact toks_eq h ((PyProof.Rows.listOrd PyProof.Rows.itemOrd).total _ _ h1 h2)
theorem le_tot : PySem.W.TotalLe P.le := by
  have T : PySem.W.TotalLe (PySem.W.dataLe false P.py) := PySem.W.sortLe_total _ _ _
  exact ⟨fun a b c => T.trans a b c, fun a b => T.total a b⟩
theorem sort_pairs (xs : List P) : (xs.mergeSort P.le).Pairwise (fun a b => P.le a b = true) := List.pairwise_mergeSort (fun a b c => le_tot.trans a b c) (fun a b => by
  rcases le_tot.total a b with h | h
  · rw [h]; rfl
  · rw [h]; simp) xs
end DL

set_option Elab.async false
set_option linter.all false
set_option maxRecDepth 100000
set_option maxHeartbeats 2000000
/-! Plain part f: drawn books. -/
noncomputable section
namespace DL
open PySem PySem.Spec PyProof.Rows L2
/-! ### edges gathered in a dict -/
def edM (es : List Edge) : Option MO := some (.dT (es.map Edge.p) (es.map fun _ => P.bl true))
def hasE (es : List Edge) (x : Edge) : Bool := es.any fun y => decide (y.p.nk = x.p.nk)
def addE (es : List Edge) (x : Edge) : List Edge := if hasE es x = true then es else es ++ [x]
theorem hasE_iff {es : List Edge} {x : Edge} : hasE es x = true ↔ x ∈ es := by
  unfold hasE
  rw [List.any_eq_true]
  constructor
  · rintro ⟨y, hy, e⟩
    rw [← Edge.nk (of_decide_eq_true e)]
    exact hy
  · intro h
    exact ⟨x, h, decide_eq_true rfl⟩
theorem addE_len (es : List Edge) (x : Edge) : (addE es x).length ≤ es.length + 1 := by
  unfold addE
  split
  · omega
  · simp
theorem addE_nodup {es : List Edge} {x : Edge} (h : es.Nodup) : (addE es x).Nodup := by
  unfold addE
  split
  · exact h
  · rename_i q
    rw [hasE_iff] at q
    rw [List.nodup_append]
    refine ⟨h, by simp, fun a ha b hb e => ?_⟩
    have : b = x := by simpa using hb
    rw [e, this] at ha
    exact q ha
theorem addE_mem {es : List Edge} {x y : Edge} (h : y ∈ addE es x) : y ∈ es ∨ y = x := by
  unfold addE at h
  split at h
  · exact .inl h
  · rcases List.mem_append.mp h with h | h
    · exact .inl h
    · exact .inr (by simpa using h)
theorem nkL_mapE : ∀ es : List Edge, P.nkL (es.map Edge.p) = es.map fun y => y.p.nk
  | [] => by simp [P.nkL]
  | x :: es => by rw [List.map_cons, P.nkL, nkL_mapE es, List.map_cons]
theorem zip_true {k : NestedKey} : ∀ es : List Edge, List.zipWith (fun (j : NestedKey) (x : P) => if j = k then P.bl true else x) (es.map fun y => y.p.nk) (es.map fun _ => P.bl true) = es.map fun _ => P.bl true
  | [] => rfl
  | x :: es => by
    rw [List.map_cons, List.map_cons, List.zipWith_cons_cons, zip_true es]
    congr 1
    split <;> rfl
theorem set_edM {m : Mem} {i : Nat} {es : List Edge} {x : Edge} (h : m[i]? = some (edM es)) (hl : es.length < 1000) :
    setM (.ref i) (.p x.p) (.p (.bl true)) m = some (m.set i (edM (addE es x))) := by
  have ea : ((P.nkL (es.map Edge.p)).any fun j => decide (j = x.p.nk)) = hasE es x := by
    rw [nkL_mapE, List.any_map]; rfl
  have kd : x.p.keyD = true := x.keyD
  have hl2 : (es.map Edge.p).length < 16777216 := by rw [List.length_map]; omega
  have key : setO (.dT (es.map Edge.p) (es.map fun _ => P.bl true)) x.p (.bl true) = some (.dT ((addE es x).map Edge.p) ((addE es x).map fun _ => P.bl true)) := by
    have e0 : setO (.dT (es.map Edge.p) (es.map fun _ => P.bl true)) x.p (.bl true) = if x.p.keyD = true ∧ (es.map Edge.p).length < 16777216 then some (.dT (if ((P.nkL (es.map Edge.p)).any fun j => decide (j = x.p.nk)) = true then es.map Edge.p else es.map Edge.p ++ [x.p]) (putA (P.nkL (es.map Edge.p)) (es.map fun _ => P.bl true) x.p.nk (.bl true))) else none := rfl
    rw [e0, if_pos ⟨kd, hl2⟩, ea]
    unfold putA addE
    rw [ea]
    cases hasE es x with
    | true => rw [if_pos rfl, if_pos rfl, if_pos rfl, nkL_mapE, zip_true]
    | false => rw [if_neg (by decide), if_neg (by decide), if_neg (by decide)]; simp
  show (match m[i]? with
    | some (some o) => (setO o x.p (.bl true)).map fun o' => m.set i (some o')
    | _ => none) = _
  rw [h]
  show (setO (.dT (es.map Edge.p) (es.map fun _ => P.bl true)) x.p (.bl true)).map _ = _
  rw [key]
  rfl
section
variable {a : Option MO} {r : Mem} {x y z : Option MO}
@[simp] theorem m1_at0 : (a :: (r ++ [x]))[r.length + 1]? = some x := by simp
@[simp] theorem m1_set0 : (a :: (r ++ [x])).set (r.length + 1) z = a :: (r ++ [z]) := by simp
end
theorem upFrom_nums (k : Nat) : upFrom 0 k = (numsTo k).map P.int := by simp [upFrom, numsTo]
theorem mem_numsTo {k : Nat} {x : Int} (h : x ∈ numsTo k) : 0 ≤ x ∧ x < k := by
  obtain ⟨i, hi, rfl⟩ := List.mem_map.mp h
  have := List.mem_range.mp hi
  exact ⟨by omega, by omega⟩
abbrev kB1 : FS := (sSub (sC (.bl true)) (sName 8) (sFn s__law_edge (sCons (sName 0) (sCons (sName 3) (sCons (sOp pAdd (sName 3) (sC (.int 1))) sNil)))))
theorem book1 {n : Nat} (r : Mem) (d1 d2 d4 d5 d6 d7 d9 : D) {k : Int} : ∀ (xs : List Int) (es : List Edge) (t : Rnd) (d3 : D), (∀ x ∈ xs, 0 ≤ x ∧ x + 1 < k) → t.Ok (n + 2 * xs.length) → es.length + xs.length < 500 → es.Nodup → (∀ e ∈ es, e.Ok k) →
    ∃ (es' : List Edge) (t' : Rnd) (d3' : D), forL (gN 3) kB1 (fun _ => true) (xs.map P.int) [.ref 0, d1, d2, d3, d4, d5, d6, d7, .ref (r.length + 1), d9] (t.mo :: (r ++ [edM es])) = .nx [.ref 0, d1, d2, d3', d4, d5, d6, d7, .ref (r.length + 1), d9] (t'.mo :: (r ++ [edM es'])) ∧
      es'.Nodup ∧ (∀ e ∈ es', e.Ok k) ∧ es'.length ≤ es.length + xs.length ∧ t'.Ok n
  | [], es, t, d3, hx, ok, hl, nd, he => ⟨es, t, d3, by simp [forL], nd, he, by simp, ok⟩
  | x :: xs, es, t, d3, hx, ok, hl, nd, he => by
    have h0 := hx x List.mem_cons_self
    rw [List.length_cons] at hl
    obtain ⟨e, eo, t1, ee, ok1⟩ := edge_ok (n := n + 2 * xs.length) (t := t) (ok.le (by rw [List.length_cons]; omega)) (k := k) (b := x) (e := x + 1) h0.1 (by omega) (by omega) h0.2 (r ++ [edM es])
    have es1 : setM (.ref (r.length + 1)) (.p e.p) (.p (.bl true)) (t1.mo :: (r ++ [edM es])) = some (t1.mo :: (r ++ [edM (addE es e)])) := by
      rw [set_edM m1_at0 (by omega), m1_set0]
    have al := addE_len es e
    obtain ⟨es', t', d3', ef, nd', he', hl', ok'⟩ := book1 r d1 d2 d4 d5 d6 d7 d9 xs (addE es e) t1 (.p (.int x)) (fun y hy => hx y (List.mem_cons_of_mem _ hy)) ok1 (by omega) (addE_nodup nd) (fun y hy => by
      rcases addE_mem hy with q | q
      · exact he y q
      · rw [q]; exact eo)
    refine ⟨es', t', d3', ?_, nd', he', by rw [List.length_cons]; omega, ok'⟩
    rw [List.map_cons, forL]
    simp [ee, es1, ef]
abbrev kB2 : FS := (sSub (sC (.bl true)) (sName 8) (sFn s__law_edge (sCons (sName 0) (sCons (sFn s__law_draw (sCons (sName 0) (sCons (sName 7) sNil))) (sCons (sFn s__law_draw (sCons (sName 0) (sCons (sName 7) sNil))) sNil)))))
theorem book2 {n : Nat} (r : Mem) (d1 d2 d3 d5 d6 d9 : D) {k : Int} (k0 : 0 < k) (k1 : k < 1000) : ∀ (xs : List Int) (es : List Edge) (t : Rnd) (d4 : D), t.Ok (n + 4 * xs.length) → es.length + xs.length < 500 → es.Nodup → (∀ e ∈ es, e.Ok k) →
    ∃ (es' : List Edge) (t' : Rnd) (d4' : D), forL (gN 4) kB2 (fun _ => true) (xs.map P.int) [.ref 0, d1, d2, d3, d4, d5, d6, .p (.int k), .ref (r.length + 1), d9] (t.mo :: (r ++ [edM es])) = .nx [.ref 0, d1, d2, d3, d4', d5, d6, .p (.int k), .ref (r.length + 1), d9] (t'.mo :: (r ++ [edM es'])) ∧
      es'.Nodup ∧ (∀ e ∈ es', e.Ok k) ∧ es'.length ≤ es.length + xs.length ∧ t'.Ok n
  | [], es, t, d4, ok, hl, nd, he => ⟨es, t, d4, by simp [forL], nd, he, by simp, ok⟩
  | x :: xs, es, t, d4, ok, hl, nd, he => by
    rw [List.length_cons] at hl
    obtain ⟨v, t1, e1, v0, v1, ok1⟩ := draw_ok (n := n + 4 * xs.length + 3) (t := t) (ok.le (by rw [List.length_cons]; omega)) k0 (by omega) (r ++ [edM es])
    obtain ⟨u, t2, e2, u0, u1, ok2⟩ := draw_ok (n := n + 4 * xs.length + 2) (t := t1) ok1 k0 (by omega) (r ++ [edM es])
    obtain ⟨e, eo, t3, ee, ok3⟩ := edge_ok (n := n + 4 * xs.length) (t := t2) ok2 (k := k) (b := v) (e := u) v0 v1 u0 u1 (r ++ [edM es])
    have es1 : setM (.ref (r.length + 1)) (.p e.p) (.p (.bl true)) (t3.mo :: (r ++ [edM es])) = some (t3.mo :: (r ++ [edM (addE es e)])) := by
      rw [set_edM m1_at0 (by omega), m1_set0]
    have al := addE_len es e
    obtain ⟨es', t', d4', ef, nd', he', hl', ok'⟩ := book2 r d1 d2 d3 d5 d6 d9 k0 k1 xs (addE es e) t3 (.p (.int x)) ok3 (by omega) (addE_nodup nd) (fun y hy => by
      rcases addE_mem hy with q | q
      · exact he y q
      · rw [q]; exact eo)
    refine ⟨es', t', d4', ?_, nd', he', by rw [List.length_cons]; omega, ok'⟩
    rw [List.map_cons, forL]
    simp [e1, e2, ee, es1, ef]
end DL

set_option Elab.async false
set_option linter.all false
set_option maxRecDepth 100000
set_option maxHeartbeats 2000000
/-! Plain part g: drawn books, drawn houses. -/
noncomputable section
namespace DL
open PySem PySem.Spec PyProof.Rows L2
/-- some of several are picked -/
theorem pick_ok {n : Nat} {r : Mem} {δ : DS} {i : Nat} {ft : FB} (hi : i < δ.length) (hft : ∀ (x : P) (n : Nat) (t : Rnd), t.Ok (n + 1) → ∃ (b : Bool) (t' : Rnd), ft (δ.set i (.p x)) (t.mo :: r) = .ok b (t'.mo :: r) ∧ t'.Ok n) :
    ∀ (xs : List P) (t : Rnd), t.Ok (n + xs.length) → ∃ (ys : List P) (t' : Rnd), compL (gN i) ft (elt (sName i)) (fun _ => true) δ xs (t.mo :: r) = .ok ys (t'.mo :: r) ∧ ys.Sublist xs ∧ t'.Ok n
  | [], t, ok => ⟨[], t, rfl, .slnil, ok⟩
  | x :: xs, t, ok => by
    obtain ⟨b, t1, e1, ok1⟩ := hft x (n + xs.length) t ok
    obtain ⟨ys, t2, e2, sb, ok2⟩ := pick_ok hi hft xs t1 ok1
    have eg : gN i (.p x) δ = some (δ.set i (.p x)) := by simp [hi]
    cases b with
    | false =>
      refine ⟨ys, t2, ?_, sb.cons _, ok2⟩
      rw [compL, if_pos rfl, eg]
      simp [e1, e2]
    | true =>
      refine ⟨x :: ys, t2, ?_, sb.cons₂ _, ok2⟩
      have ee : elt (sName i) (δ.set i (.p x)) (t1.mo :: r) = .ok [x] (t1.mo :: r) := elt_ok (by simp [hi])
      rw [compL, if_pos rfl, eg]
      simp [e1, e2, ee]
theorem sub_map {α β : Type} {f : α → β} {xs : List α} {ys : List β} (h : ys.Sublist (xs.map f)) : ∃ zs : List α, ys = zs.map f ∧ zs.Sublist xs := by
  obtain ⟨zs, h1, h2⟩ := List.sublist_map_iff.mp h
  exact ⟨zs, h2, h1⟩
/-- the numbers from lo -/
def numsFrom (lo : Int) (k : Nat) : List Int := (List.range k).map fun (i : Nat) => lo + (i : Int)
theorem upFrom_from (lo : Int) (k : Nat) : upFrom lo k = (numsFrom lo k).map P.int := by simp [upFrom, numsFrom]
theorem from_asc (lo : Int) (k : Nat) : (numsFrom lo k).Pairwise (· < ·) := by
  unfold numsFrom
  rw [List.pairwise_map]
  exact (List.pairwise_lt_range (n := k)).imp fun h => by omega
theorem mem_from {lo : Int} {k : Nat} {x : Int} (h : x ∈ numsFrom lo k) : lo ≤ x ∧ x < lo + k := by
  obtain ⟨i, hi, rfl⟩ := List.mem_map.mp h
  have := List.mem_range.mp hi
  exact ⟨by omega, by omega⟩
/-! ### sorted edges -/
theorem plainL_mapE : ∀ es : List Edge, P.plainL (es.map Edge.p) = true
  | [] => rfl
  | x :: es => by rw [List.map_cons, P.plainL, plainL_mapE es, x.plain]; rfl
theorem depL_mapE : ∀ es : List Edge, P.depL (es.map Edge.p) ≤ 2
  | [] => by simp [P.depL]
  | x :: es => by
    have := depL_mapE es
    rw [List.map_cons, P.depL, x.dep]
    omega
theorem alike_mapE (es : List Edge) : alikeL (es.map Edge.p) = true := by
  unfold alikeL
  rw [List.all_eq_true]
  intro a ha
  rw [List.all_eq_true]
  intro b hb
  obtain ⟨x, _, rfl⟩ := List.mem_map.mp ha
  obtain ⟨y, _, rfl⟩ := List.mem_map.mp hb
  exact x.alike y
def Edge.le (x y : Edge) : Bool := P.le x.p y.p
def Edge.lt (x y : Edge) : Prop := PySem.W.dataLt x.p.py y.p.py = true
def sortE (es : List Edge) : List Edge := es.mergeSort Edge.le
theorem sorted_mapE (es : List Edge) : gSorted [.lst (es.map Edge.p)] = some ((sortE es).map Edge.p) := by
  have c : P.plainL (es.map Edge.p) = true ∧ alikeL (es.map Edge.p) = true ∧ ((es.map Edge.p).all P.rows = true ∨ (es.map Edge.p).all P.item = true) ∧ ((es.map Edge.p).all fun x => decide (x.dep ≤ 100)) = true := by
    refine ⟨plainL_mapE es, alike_mapE es, .inl ?_, ?_⟩
    · rw [List.all_eq_true]
      intro a ha
      obtain ⟨x, _, rfl⟩ := List.mem_map.mp ha
      rfl
    · rw [List.all_eq_true]
      intro a ha
      obtain ⟨x, _, rfl⟩ := List.mem_map.mp ha
      rw [x.dep]
      decide
  have e : gSorted [.lst (es.map Edge.p)] = some ((es.map Edge.p).mergeSort P.le) := if_pos c
  rw [e]
  congr 1
  exact (List.map_mergeSort (r := Edge.le) (s := P.le) (f := Edge.p) (l := es) fun a _ b _ => rfl).symm
theorem sortE_perm (es : List Edge) : (sortE es).Perm es := List.mergeSort_perm _ _
theorem sortE_asc {es : List Edge} (nd : es.Nodup) : (sortE es).Pairwise Edge.lt := by
  have nd' : (sortE es).Pairwise (· ≠ ·) := (sortE_perm es).nodup_iff.mpr nd
  have so : (sortE es).Pairwise (fun a b => Edge.le a b = true) := List.pairwise_mergeSort (fun a b c => le_tot.trans a.p b.p c.p) (fun a b => by
    show (P.le a.p b.p || P.le b.p a.p) = true
    rcases le_tot.total a.p b.p with h | h
    · rw [h]; rfl
    · rw [h]; simp) es
  refine (so.and nd').imp fun {a b} ⟨h1, h2⟩ => ?_
  have h3 : PySem.W.dataLt b.p.py a.p.py = false := by
    have h1' : (!PySem.W.dataLt b.p.py a.p.py) = true := h1
    simpa using h1'
  cases q : PySem.W.dataLt a.p.py b.p.py with
  | true => exact q
  | false => exact absurd (Edge.eqv (lt_total a.plain b.plain (a.alike b) q h3)) h2
/-! ### books -/
def numsT (xs : List Int) : P := .tup (xs.map .int)
structure Book where
  n : Int
  up : List Int
  deaf : List Int
  es : List Edge
def Book.p (x : Book) : P := .tup [.int x.n, numsT x.up, numsT x.deaf, .tup (x.es.map Edge.p)]
structure Book.Ok (k : Nat) (x : Book) : Prop where
  n1 : 1 ≤ x.n
  n2 : x.n ≤ k
  up : x.up.Pairwise (· < ·)
  upI : ∀ i ∈ x.up, 1 ≤ i ∧ i < x.n
  deaf : x.deaf.Pairwise (· < ·)
  deafI : ∀ i ∈ x.deaf, 0 ≤ i ∧ i < x.n
  es : x.es.Pairwise Edge.lt
  esI : ∀ e ∈ x.es, e.Ok x.n
theorem mkL_ok {xs : List P} {m : Mem} (h : xs.length ≤ 1000) : mkL xs m = .ok (.p (.lst xs)) m := mkL_le (by omega)
theorem rg1_ok {j : Int} (h0 : 0 ≤ j) (h1 : j < 1000) : rg1 [.p (.int j)] = some j := if_pos (by omega)
theorem rg2_ok {i j : Int} (h0 : 0 ≤ i) (h1 : i < 1000) (h2 : 0 ≤ j) (h3 : j < 1000) : rg2 [.p (.int i), .p (.int j)] = some (i, j) := if_pos (by omega)
def edD (es : List Edge) : P := .dT (es.map Edge.p) (es.map fun _ => P.bl true)
@[simp] theorem seen_edM (es : List Edge) : seen (some (edM es)) = some (edD es) := id rfl
@[simp] theorem gList_edD (es : List Edge) : gList [edD es] = some (es.map Edge.p) := id rfl
abbrev upT : FB := (sB (sOp pEq (sFn s__law_draw (sCons (sName 0) (sCons (sC (.int 2)) sNil))) (sC (.int 0))))
abbrev deafT : FB := (sB (sOp pEq (sFn s__law_draw (sCons (sName 0) (sCons (sC (.int 4)) sNil))) (sC (.int 0))))
theorem toss_ok {r : Mem} {δ : DS} {k : Int} (k0 : 0 < k) (k1 : k < 1000) (h0 : δ[0]? = some (.ref 0)) (n : Nat) (t : Rnd) (ok : t.Ok (n + 1)) :
    ∃ (b : Bool) (t' : Rnd), (sB (sOp pEq (sFn s__law_draw (sCons (sName 0) (sCons (sC (.int k)) sNil))) (sC (.int 0)))) δ (t.mo :: r) = .ok b (t'.mo :: r) ∧ t'.Ok n := by
  obtain ⟨v, t', e, _, _, ok'⟩ := draw_ok ok k0 (by omega) r
  exact ⟨decide (v = 0), t', by simp [h0, e], ok'⟩
theorem gTuple_lst (xs : List P) : gTuple [.lst xs] = some (.tup xs) := rfl
theorem it1_nat {fr : FA} {δ : DS} {m m' : Mem} {x : Int} {k : Nat} (h : fr δ m = .ok [.p (.int x)] m') (hx : x = (k : Int)) (hk : k < 1000) : sIt1 fr δ m = .ok ⟨(numsTo k).map P.int, fun _ => true⟩ m' := by
  have g : rg1 [.p (.int x)] = some x := rg1_ok (by omega) (by omega)
  rw [e_It1, h]
  show itR ((rg1 [.p (.int x)]).map fun j => (⟨upFrom 0 j.toNat, fun _ => true⟩ : Itm)) m' = _
  rw [g]
  have : x.toNat = k := by omega
  show ER.ok (⟨upFrom 0 x.toNat, fun _ => true⟩ : Itm) _ = _
  rw [this, upFrom_nums]
theorem it2_nat {fr : FA} {δ : DS} {m m' : Mem} {x y : Int} {k : Nat} (h : fr δ m = .ok [.p (.int x), .p (.int y)] m') (hx : 0 ≤ x) (hx1 : x < 1000) (hy : y = x + (k : Int)) (hk : k < 1000) (hy1 : y < 1000) : sIt2 fr δ m = .ok ⟨(numsFrom x k).map P.int, fun _ => true⟩ m' := by
  have g : rg2 [.p (.int x), .p (.int y)] = some (x, y) := rg2_ok hx hx1 (by omega) hy1
  rw [e_It2, h]
  show itR ((rg2 [.p (.int x), .p (.int y)]).map fun q => (⟨upFrom q.1 (q.2 - q.1).toNat, fun _ => true⟩ : Itm)) m' = _
  rw [g]
  have : (y - x).toNat = k := by omega
  show ER.ok (⟨upFrom x (y - x).toNat, fun _ => true⟩ : Itm) _ = _
  rw [this, upFrom_from]
theorem numsTo_from (k : Nat) : numsTo k = numsFrom 0 k := by simp [numsTo, numsFrom]
theorem book_ok {n : Nat} {t : Rnd} {st mo : Nat} (h : t.Ok (n + (2 + 4 * st + 4 * mo))) (s1 : 1 ≤ st) (s2 : st < 50) (m2 : mo < 100) (r : Mem) :
    ∃ (x : Book) (t' : Rnd), s__law_book [.ref 0, .p (.int st), .p (.int mo)] (t.mo :: r) = .ok (.p x.p) (t'.mo :: r) ∧ x.Ok st ∧ x.es.length ≤ st + mo ∧ t'.Ok n := by
  obtain ⟨v, t1, e1, v0, v1, ok1⟩ := draw_ok (n := n + (1 + 4 * st + 4 * mo)) (t := t) (h.le (by omega)) (top := (st : Int)) (by omega) (by omega) r
  obtain ⟨k, hk⟩ : ∃ k : Nat, v = (k : Int) := ⟨v.toNat, by omega⟩
  obtain ⟨K, hK⟩ : ∃ K : Int, 1 + v = K := ⟨_, rfl⟩
  obtain ⟨S, hS⟩ : ∃ S : Int, (st : Int) = S := ⟨_, rfl⟩
  obtain ⟨M, hM⟩ : ∃ M : Int, (mo : Int) = M := ⟨_, rfl⟩
  obtain ⟨es1, t2, d3, e2, nd2, ok2e, l2, ok2⟩ := book1 (n := n + (1 + 2 * st + 4 * mo)) r (.p (.int S)) (.p (.int M)) .und .und .und (.p (.int K)) .und (k := K) (numsTo k) [] t1 .und (fun x hx => by
    have := mem_numsTo hx
    omega) (ok1.le (by rw [numsTo_len]; omega)) (by rw [numsTo_len]; simp; omega) List.nodup_nil (fun e he => by cases he)
  rw [numsTo_len] at l2
  obtain ⟨u, t3, e3, u0, u1, ok3⟩ := draw_ok (n := n + (2 * st + 4 * mo)) (t := t2) (ok2.le (by omega)) (top := (M + 1)) (by omega) (by omega) (r ++ [edM es1])
  obtain ⟨j, hj⟩ : ∃ j : Nat, u = (j : Int) := ⟨u.toNat, by omega⟩
  obtain ⟨es2, t4, d4, e4, nd4, ok4e, l4, ok4⟩ := book2 (n := n + 2 * st) r (.p (.int S)) (.p (.int M)) d3 .und .und .und (k := K) (by omega) (by omega) (numsTo j) es1 t3 .und (ok3.le (by rw [numsTo_len]; omega)) (by rw [numsTo_len]; simp at l2; omega) nd2 ok2e
  rw [numsTo_len] at l4
  obtain ⟨ys, t5, e5, sb5, ok5⟩ := pick_ok (n := n + st) (r := r ++ [edM es2]) (δ := [.ref 0, .p (.int S), .p (.int M), d3, d4, .und, .und, .p (.int K), .ref (r.length + 1), .und]) (i := 9) (ft := upT) (by simp) (fun x n t ok => toss_ok (by omega) (by omega) (by simp) n t ok) ((numsFrom 1 k).map P.int) t4 (ok4.le (by simp [numsFrom]; omega))
  obtain ⟨up, rfl, sup⟩ := sub_map sb5
  obtain ⟨zs, t6, e6, sb6, ok6⟩ := pick_ok (n := n) (r := r ++ [edM es2]) (δ := [.ref 0, .p (.int S), .p (.int M), d3, d4, .p (numsT up), .und, .p (.int K), .ref (r.length + 1), .und]) (i := 9) (ft := deafT) (by simp) (fun x n t ok => toss_ok (by omega) (by omega) (by simp) n t ok) ((numsTo (k + 1)).map P.int) t5 (ok5.le (by simp [numsTo_len]; omega))
  obtain ⟨deaf, rfl, sdeaf⟩ := sub_map sb6
  have lup : up.length ≤ 100 := by have := sup.length_le; simp [numsFrom] at this; omega
  have ldeaf : deaf.length ≤ 100 := by have := sdeaf.length_le; rw [numsTo_len] at this; omega
  refine ⟨⟨K, up, deaf, sortE es2⟩, t6, ?_, ?_, ?_, ok6⟩
  · have m5 := mkL_ok (xs := up.map P.int) (m := t5.mo :: (r ++ [edM es2])) (by simp; omega)
    have m6 := mkL_ok (xs := deaf.map P.int) (m := t6.mo :: (r ++ [edM es2])) (by simp; omega)
    have f0 : (some (.dT [] []) : Option MO) = edM [] := rfl
    have so := sorted_mapE es2
    have i1 : sIt1 (sCons (sOp pSub (sName 7) (sC (.int 1))) sNil) [.ref 0, .p (.int S), .p (.int M), .und, .und, .und, .und, .p (.int K), .ref (r.length + 1), .und] (t1.mo :: (r ++ [edM []])) = .ok ⟨(numsTo k).map P.int, fun _ => true⟩ (t1.mo :: (r ++ [edM []])) := it1_nat (x := K - 1) (by simp) (by omega) (by omega)
    have i2 : sIt1 (sCons (sFn s__law_draw (sCons (sName 0) (sCons (sOp pAdd (sName 2) (sC (.int 1))) sNil))) sNil) [.ref 0, .p (.int S), .p (.int M), d3, .und, .und, .und, .p (.int K), .ref (r.length + 1), .und] (t2.mo :: (r ++ [edM es1])) = .ok ⟨(numsTo j).map P.int, fun _ => true⟩ (t3.mo :: (r ++ [edM es1])) := it1_nat (x := u) (by simp [e3]) (by omega) (by omega)
    have i3 : sIt2 (sCons (sC (.int 1)) (sCons (sName 7) sNil)) [.ref 0, .p (.int S), .p (.int M), d3, d4, .und, .und, .p (.int K), .ref (r.length + 1), .und] (t4.mo :: (r ++ [edM es2])) = .ok ⟨(numsFrom 1 k).map P.int, fun _ => true⟩ (t4.mo :: (r ++ [edM es2])) := it2_nat (x := 1) (y := K) (by simp) (by omega) (by omega) (by omega) (by omega) (by omega)
    have i4 : sIt1 (sCons (sName 7) sNil) [.ref 0, .p (.int S), .p (.int M), d3, d4, .p (numsT up), .und, .p (.int K), .ref (r.length + 1), .und] (t5.mo :: (r ++ [edM es2])) = .ok ⟨(numsTo (k + 1)).map P.int, fun _ => true⟩ (t5.mo :: (r ++ [edM es2])) := it1_nat (x := K) (by simp) (by omega) (by omega)
    clear l2 l4 ok1 ok2 ok3 ok4 ok5 ok6 hk hj h s1 s2 m2 v0 v1 u0 u1
    rw [hS] at e1
    rw [hS, hM]
    unfold s__law_book b__law_book
    simp only [kB1, kB2, upT, deafT] at e2 e4 e5 e6
    simp only [e_fnS, starts_eq, n__law_book]
    have c5 : sLc (sIt2 (sCons (sC (.int 1)) (sCons (sName 7) sNil))) (gN 9) (sB (sOp pEq (sFn s__law_draw (sCons (sName 0) (sCons (sC (P.int 2)) sNil))) (sC (P.int 0)))) (sName 9) [9] [.ref 0, .p (.int S), .p (.int M), d3, d4, .und, .und, .p (.int K), .ref (r.length + 1), .und] (t4.mo :: (r ++ [edM es2])) = .ok (.p (.lst (up.map .int))) (t5.mo :: (r ++ [edM es2])) := by
      rw [e_Lc, i3]
      show (compL _ _ _ _ _ _ _).bindN mkL = _
      rw [← m5]
      exact congrArg (fun z => ER.bindN z mkL) e5
    have c6 : sLc (sIt1 (sCons (sName 7) sNil)) (gN 9) (sB (sOp pEq (sFn s__law_draw (sCons (sName 0) (sCons (sC (P.int 4)) sNil))) (sC (P.int 0)))) (sName 9) [9] [.ref 0, .p (.int S), .p (.int M), d3, d4, .p (numsT up), .und, .p (.int K), .ref (r.length + 1), .und] (t5.mo :: (r ++ [edM es2])) = .ok (.p (.lst (deaf.map .int))) (t6.mo :: (r ++ [edM es2])) := by
      rw [e_Lc, i4]
      show (compL _ _ _ _ _ _ _).bindN mkL = _
      rw [← m6]
      exact congrArg (fun z => ER.bindN z mkL) e6
    have nT : ∀ xs : List Int, P.tup (xs.map .int) = numsT xs := fun _ => rfl
    simp [-rg1_int, -rg2_int, -e_It1, -e_It2, -e_Lc, List.replicate_succ, e1, f0, hK, i1, e2, i2, e4, c5, nT, c6, so, gTuple_lst]
    rfl
  · exact ⟨by show 1 ≤ K; omega, by show K ≤ (st : Int); omega, (from_asc 1 k).sublist sup, fun i hi => by
      have := mem_from (sup.subset hi)
      refine ⟨this.1, ?_⟩
      show i < K
      omega, by
      show deaf.Pairwise (· < ·)
      rw [numsTo_from] at sdeaf
      exact (from_asc 0 (k + 1)).sublist sdeaf, fun i hi => by
      have := mem_numsTo (sdeaf.subset hi)
      refine ⟨this.1, ?_⟩
      show i < K
      omega, sortE_asc nd4, fun e he => ok4e e ((sortE_perm es2).mem_iff.mp he)⟩
  · have := (sortE_perm es2).length_eq
    show (sortE es2).length ≤ _
    simp at l2
    omega
end DL

set_option Elab.async false
set_option linter.all false
set_option maxRecDepth 100000
set_option maxHeartbeats 2000000
/-! Plain part h: drawn houses. -/
noncomputable section
namespace DL
open PySem PySem.Spec PyProof.Rows L2
def wds : List Str := ["a", "bus", "go", "up"]
def wd (i : Int) : Str := if i = 0 then "a" else if i = 1 then "bus" else if i = 2 then "go" else "up"
def wlt (x y : Str) : Prop := x.cps.toList < y.cps.toList
theorem four {i : Int} (h : i ∈ numsTo 4) : i = 0 ∨ i = 1 ∨ i = 2 ∨ i = 3 := by
  have := mem_numsTo h
  omega
theorem wd_mem {i : Int} : wd i ∈ wds := by
  unfold wd wds
  split
  · simp
  · split
    · simp
    · split <;> simp
theorem wd_ne : ∀ {i j : Int}, i ∈ numsTo 4 → j ∈ numsTo 4 → i ≠ j → wd i ≠ wd j := by
  intro i j hi hj h
  rcases four hi with rfl | rfl | rfl | rfl <;> rcases four hj with rfl | rfl | rfl | rfl <;> first | exact absurd rfl h | decide +kernel
theorem wds_lt : ∀ x ∈ wds, ∀ y ∈ wds, PySem.W.dataLt (P.str x).py (P.str y).py = true → wlt x y := by
  have key : ∀ x ∈ wds, ∀ y ∈ wds, PySem.W.dataLt (P.str x).py (P.str y).py = decide (x.cps.toList < y.cps.toList) := by decide +kernel
  intro x hx y hy h
  rw [key x hx y hy] at h
  unfold wlt
  exact of_decide_eq_true h
theorem wd_ix {i : Int} (h : i ∈ numsTo 4) : pIx (.lst [.str "a", .str "bus", .str "go", .str "up"]) (.int i) = some (.str (wd i)) := by
  rcases four h with rfl | rfl | rfl | rfl <;> rfl
def Wle (x y : Str) : Bool := P.le (.str x) (.str y)
def sortW (ws : List Str) : List Str := ws.mergeSort Wle
theorem sorted_mapW (ws : List Str) : gSorted [.lst (ws.map P.str)] = some ((sortW ws).map P.str) := by
  have c : P.plainL (ws.map P.str) = true ∧ alikeL (ws.map P.str) = true ∧ ((ws.map P.str).all P.rows = true ∨ (ws.map P.str).all P.item = true) ∧ ((ws.map P.str).all fun x => decide (x.dep ≤ 100)) = true := by
    refine ⟨plainL_txs ws, ?_, .inr ?_, ?_⟩
    · unfold alikeL
      rw [List.all_eq_true]
      intro a ha
      rw [List.all_eq_true]
      intro b hb
      obtain ⟨x, _, rfl⟩ := List.mem_map.mp ha
      obtain ⟨y, _, rfl⟩ := List.mem_map.mp hb
      simp [P.py, PySem.W.alike]
    · rw [List.all_eq_true]
      intro a ha
      obtain ⟨x, _, rfl⟩ := List.mem_map.mp ha
      rfl
    · rw [List.all_eq_true]
      intro a ha
      obtain ⟨x, _, rfl⟩ := List.mem_map.mp ha
      simp [P.dep]
  have e : gSorted [.lst (ws.map P.str)] = some ((ws.map P.str).mergeSort P.le) := if_pos c
  rw [e]
  congr 1
  exact (List.map_mergeSort (r := Wle) (s := P.le) (f := P.str) (l := ws) fun a _ b _ => rfl).symm
theorem sortW_perm (ws : List Str) : (sortW ws).Perm ws := List.mergeSort_perm _ _
theorem sortW_asc {ws : List Str} (nd : ws.Nodup) (hm : ∀ x ∈ ws, x ∈ wds) : (sortW ws).Pairwise wlt := by
  have nd' : (sortW ws).Pairwise (· ≠ ·) := (sortW_perm ws).nodup_iff.mpr nd
  have so : (sortW ws).Pairwise (fun a b => Wle a b = true) := List.pairwise_mergeSort (fun a b c => le_tot.trans (.str a) (.str b) (.str c)) (fun a b => by
    show (P.le (.str a) (.str b) || P.le (.str b) (.str a)) = true
    rcases le_tot.total (.str a) (.str b) with h | h
    · rw [h]; rfl
    · rw [h]; simp) ws
  refine (so.and nd').imp_of_mem fun {a b} ha hb ⟨h1, h2⟩ => wds_lt a (hm a ((sortW_perm ws).mem_iff.mp ha)) b (hm b ((sortW_perm ws).mem_iff.mp hb)) ?_
  have h3 : PySem.W.dataLt (P.str b).py (P.str a).py = false := by
    have h1' : (!PySem.W.dataLt (P.str b).py (P.str a).py) = true := h1
    simpa using h1'
  cases q : PySem.W.dataLt (P.str a).py (P.str b).py with
  | true => rfl
  | false =>
    have := lt_total (a := .str a) (b := .str b) rfl rfl (by simp [P.py, PySem.W.alike]) q h3
    exact absurd (by simpa [P.eqv] using this) h2
structure Rm where
  name : Str
  bk : Book
  below : List Str
def Rm.p (x : Rm) : P := .tup [.str x.name, .tup [x.bk.p, .tup (x.below.map P.str)]]
structure Rm.Ok (ns : List Str) (x : Rm) : Prop where
  bk : x.bk.Ok 6
  few : x.bk.es.length ≤ 14
  below : x.below.Sublist ns
structure HouseOk (hs : List Rm) : Prop where
  asc : (hs.map Rm.name).Pairwise wlt
  mem : ∀ x ∈ hs.map Rm.name, x ∈ wds
  l1 : 1 ≤ hs.length
  l2 : hs.length ≤ 3
  ok : ∀ x ∈ hs, x.Ok (hs.map Rm.name)
abbrev hT : FB := (sB (sOp pGt (sFn s__law_draw (sCons (sName 0) (sCons (sC (.int 4)) sNil))) (sC (.int 0))))
theorem toss_gt {r : Mem} {δ : DS} {k : Int} (k0 : 0 < k) (k1 : k < 1000) (h0 : δ[0]? = some (.ref 0)) (n : Nat) (t : Rnd) (ok : t.Ok (n + 1)) :
    ∃ (b : Bool) (t' : Rnd), (sB (sOp pGt (sFn s__law_draw (sCons (sName 0) (sCons (sC (.int k)) sNil))) (sC (.int 0)))) δ (t.mo :: r) = .ok b (t'.mo :: r) ∧ t'.Ok n := by
  obtain ⟨v, t', e, _, _, ok'⟩ := draw_ok ok k0 (by omega) r
  have g : pGt (.int v) (.int 0) = some (.bl (decide (v > 0))) := rfl
  exact ⟨decide (v > 0), t', by simp [h0, e, g], ok'⟩
abbrev hB : FS := (sSeq (sAsgN (sCall gTuple (sCons (sLc (sIt (sName 4)) (gN 9) (sB (sOp pGt (sFn s__law_draw (sCons (sName 0) (sCons (sC (.int 4)) sNil))) (sC (.int 0)))) (sName 9) [9]) sNil)) 7)
    (sDrop (sMt (onLst fAppend) (sName 5) (sCons (sTup (sCons (sName 6) (sCons (sTup (sCons (sFn s__law_book (sCons (sName 0) (sCons (sName 2) (sCons (sName 3) sNil)))) (sCons (sName 7) sNil))) sNil))) sNil))))
def rmM (xs : List Rm) : Option MO := some (.lst (xs.map Rm.p))
@[simp] theorem seen_rmM (xs : List Rm) : seen (some (rmM xs)) = some (.lst (xs.map Rm.p)) := id rfl
@[simp] theorem isLstV_l (xs : List P) : isLstV (some (.lst xs)) = true := id rfl
theorem app_rmM {m : Mem} {i : Nat} {xs : List Rm} {x : Rm} (h : m[i]? = some (rmM xs)) (hl : xs.length < 1000000) :
    onLst fAppend (.ref i) [.p x.p] m = some (.non, m.set i (rmM (xs ++ [x]))) := by
  unfold onLst
  simp only [h, rmM, allP_cons, allP_nil, Option.map_some]
  unfold fAppend
  dsimp only
  rw [if_pos (by simp; omega)]
  simp
theorem it_lst (fa : FE) {δ : DS} {m m' : Mem} {xs : List P} (h : fa δ m = .ok (.p (.lst xs)) m') : sIt fa δ m = .ok ⟨xs, fun _ => true⟩ m' := by
  rw [e_It, h]
  rfl
theorem house_loop {n : Nat} (r : Mem) (d1 : D) {ns : List Str} (hn : ns.length ≤ 4) : ∀ (xs : List Str) (hs : List Rm) (t : Rnd) (d6 d7 : D), t.Ok (n + 64 * xs.length) → hs.length + xs.length < 500 →
    ∃ (hs' : List Rm) (t' : Rnd) (d6' d7' : D), forL (gN 6) hB (fun _ => true) (xs.map P.str) [.ref 0, d1, .p (.int 6), .p (.int 8), .p (.lst (ns.map P.str)), .ref (r.length + 1), d6, d7, .und, .und] (t.mo :: (r ++ [rmM hs])) = .nx [.ref 0, d1, .p (.int 6), .p (.int 8), .p (.lst (ns.map P.str)), .ref (r.length + 1), d6', d7', .und, .und] (t'.mo :: (r ++ [rmM (hs ++ hs')])) ∧
      hs'.map Rm.name = xs ∧ (∀ x ∈ hs', x.Ok ns) ∧ t'.Ok n
  | [], hs, t, d6, d7, ok, hl => ⟨[], t, d6, d7, by simp [forL], rfl, by simp, ok⟩
  | x :: xs, hs, t, d6, d7, ok, hl => by
    rw [List.length_cons] at hl
    obtain ⟨ys, t1, e1, sb, ok1⟩ := pick_ok (n := n + 64 * xs.length + 58) (r := r ++ [rmM hs]) (δ := [.ref 0, d1, .p (.int 6), .p (.int 8), .p (.lst (ns.map P.str)), .ref (r.length + 1), .p (.str x), d7, .und, .und]) (i := 9) (ft := hT) (by simp) (fun x n t ok => toss_gt (by omega) (by omega) (by simp) n t ok) (ns.map P.str) t (ok.le (by rw [List.length_cons]; simp; omega))
    obtain ⟨be, rfl, sbe⟩ := sub_map sb
    obtain ⟨bk, t2, e2, okb, few, ok2⟩ := book_ok (n := n + 64 * xs.length) (t := t1) (st := 6) (mo := 8) ok1 (by omega) (by omega) (by omega) (r ++ [rmM hs])
    have e3 : onLst fAppend (.ref (r.length + 1)) [.p (Rm.p ⟨x, bk, be⟩)] (t2.mo :: (r ++ [rmM hs])) = some (.non, t2.mo :: (r ++ [rmM (hs ++ [⟨x, bk, be⟩])])) := by
      rw [app_rmM m1_at0 (by omega), m1_set0]
    obtain ⟨hs', t', d6', d7', ef, en, eo, ok'⟩ := house_loop r d1 hn xs (hs ++ [⟨x, bk, be⟩]) t2 (.p (.str x)) (.p (.tup (be.map P.str))) ok2 (by simp; omega)
    refine ⟨⟨x, bk, be⟩ :: hs', t', d6', d7', ?_, by simp [en], ?_, ok'⟩
    · have hbe : be.length ≤ 4 := Nat.le_trans sbe.length_le hn
      have m1 := mkL_ok (xs := be.map P.str) (m := t1.mo :: (r ++ [rmM hs])) (by simp; omega)
      have c1 : sLc (sIt (sName 4)) (gN 9) (sB (sOp pGt (sFn s__law_draw (sCons (sName 0) (sCons (sC (.int 4)) sNil))) (sC (.int 0)))) (sName 9) [9] [.ref 0, d1, .p (.int 6), .p (.int 8), .p (.lst (ns.map P.str)), .ref (r.length + 1), .p (.str x), d7, .und, .und] (t.mo :: (r ++ [rmM hs])) = .ok (.p (.lst (be.map P.str))) (t1.mo :: (r ++ [rmM hs])) := by
        rw [e_Lc, it_lst (sName 4) (xs := ns.map P.str) (m' := t.mo :: (r ++ [rmM hs])) (by simp)]
        show (compL _ _ _ _ _ _ _).bindN mkL = _
        rw [← m1]
        exact congrArg (fun z => ER.bindN z mkL) e1
      have pb : P.tup [.str x, .tup [bk.p, .tup (be.map P.str)]] = Rm.p ⟨x, bk, be⟩ := rfl
      have e2' : s__law_book [.ref 0, .p (.int 6), .p (.int 8)] (t1.mo :: (r ++ [rmM hs])) = .ok (.p bk.p) (t2.mo :: (r ++ [rmM hs])) := e2
      rw [List.map_cons, forL]
      simp [-e_Lc, c1, gTuple_lst, e2', pb, e3]
      rw [ef]
      simp
    · intro y hy
      rcases List.mem_cons.mp hy with rfl | hy
      · exact ⟨okb, few, sbe⟩
      · exact eo y hy
theorem cut_to {α : Type} (xs : List α) (k : Nat) : cut xs none (some (k : Int)) = xs.take k := by
  unfold cut
  have e := HT.sIx_nat xs.length xs.length k
  rw [e, HT.sIx_none]
  simp
theorem house_ok {n : Nat} {t : Rnd} (h : t.Ok (n + 5 + 64 * 4)) (r : Mem) :
    ∃ (hs : List Rm) (t' : Rnd), s__law_house [.ref 0, .p (.int 3), .p (.int 6), .p (.int 8)] (t.mo :: r) = .ok (.p (.tup (hs.map Rm.p))) (t'.mo :: r) ∧ HouseOk hs ∧ t'.Ok n := by
  obtain ⟨zs, t1, e1, pz, ok1⟩ := order_ok (n := n + 1 + 64 * 4) (t := t) (k := 4) (h.le (by omega)) (by omega) r
  obtain ⟨v, t2, e2, v0, v1, ok2⟩ := draw_ok (n := n + 64 * 4) (t := t1) (ok1.le (by omega)) (top := 3) (by omega) (by omega) r
  obtain ⟨k, hk⟩ : ∃ k : Nat, 1 + v = (k : Int) := ⟨(1 + v).toNat, by omega⟩
  have lz : zs.length = 4 := by rw [pz.length_eq, numsTo_len]
  have lk : (zs.take k).length = k := by rw [List.length_take]; omega
  have hz : ∀ x ∈ zs.take k, x ∈ numsTo 4 := fun x hx => pz.mem_iff.mp (List.mem_of_mem_take hx)
  have nd : ((zs.take k).map wd).Nodup := by
    have nz : zs.Nodup := pz.nodup_iff.mpr (by decide)
    have nt : (zs.take k).Pairwise (· ≠ ·) := List.Pairwise.sublist (List.take_sublist k zs) nz
    show ((zs.take k).map wd).Pairwise (· ≠ ·)
    rw [List.pairwise_map]
    exact nt.imp_of_mem fun ha hb hne => wd_ne (hz _ ha) (hz _ hb) hne
  have hw : ∀ x ∈ (zs.take k).map wd, x ∈ wds := fun x hx => by
    obtain ⟨i, _, rfl⟩ := List.mem_map.mp hx
    exact wd_mem
  have asc := sortW_asc nd hw
  have hw' : ∀ x ∈ sortW ((zs.take k).map wd), x ∈ wds := fun x hx => hw x ((sortW_perm _).mem_iff.mp hx)
  have so := sorted_mapW ((zs.take k).map wd)
  have ls : (sortW ((zs.take k).map wd)).length = k := by rw [(sortW_perm _).length_eq, List.length_map, lk]
  obtain ⟨ns, hns⟩ : ∃ ns, sortW ((zs.take k).map wd) = ns := ⟨_, rfl⟩
  rw [hns] at asc hw' so ls
  obtain ⟨hs, t3, d6, d7, e3, en, eo, ok3⟩ := house_loop (n := n) r (.p (.int 3)) (ns := ns) (by omega) ns [] t2 .und .und (ok2.le (by omega)) (by simp; omega)
  have lh : hs.length = k := by rw [← ls, ← en, List.length_map]
  refine ⟨hs, t3, ?_, ⟨by rw [en]; exact asc, by rw [en]; exact hw', by omega, by omega, by rw [en]; exact eo⟩, ok3⟩
  have c1 : ∀ m : Mem, compL (gN 8) sYes (elt (sOp pIx (sLst (sCons (sC (.str "a")) (sCons (sC (.str "bus")) (sCons (sC (.str "go")) (sCons (sC (.str "up")) sNil))))) (sName 8))) (fun _ => true) [.ref 0, .p (.int 3), .p (.int 6), .p (.int 8), .und, .und, .und, .und, .und, .und] ((zs.take k).map P.int) m = .ok (((zs.take k).map wd).map P.str) m := by
    intro m
    rw [compL_pure (fun _ => true) (fun x => match x with
      | .int i => .str (wd i)
      | x => x)]
    · rw [List.filter_eq_self.mpr (by simp), List.map_map, List.map_map]
      rfl
    · intro x hx
      obtain ⟨i, hi, rfl⟩ := List.mem_map.mp hx
      exact ⟨[.ref 0, .p (.int 3), .p (.int 6), .p (.int 8), .und, .und, .und, .und, .p (.int i), .und], by simp, by simp, fun _ => by simp [wd_ix (hz i hi)]⟩
  have f0 : (some (.lst []) : Option MO) = rmM [] := rfl
  have e1' : s__law_order [.ref 0, .p (.int 4)] (t.mo :: r) = .ok (.p (nmL zs)) (t1.mo :: r) := e1
  have cz : pSl (nmL zs) none (some (1 + v)) = some (.lst ((zs.take k).map P.int)) := by
    rw [hk]
    show some (P.lst (cut (zs.map P.int) none (some (k : Int)))) = _
    rw [cut_to, List.map_take]
  have c2 : sLc (sIt (sSl (sFn s__law_order (sCons (sName 0) (sCons (sC (.int 4)) sNil))) sNoPart (sPart (sOp pAdd (sC (.int 1)) (sFn s__law_draw (sCons (sName 0) (sCons (sName 1) sNil))))))) (gN 8) sYes (sOp pIx (sLst (sCons (sC (.str "a")) (sCons (sC (.str "bus")) (sCons (sC (.str "go")) (sCons (sC (.str "up")) sNil))))) (sName 8)) [8] [.ref 0, .p (.int 3), .p (.int 6), .p (.int 8), .und, .und, .und, .und, .und, .und] (t.mo :: r) = .ok (.p (.lst (((zs.take k).map wd).map P.str))) (t2.mo :: r) := by
    rw [e_Lc, it_lst (xs := (zs.take k).map P.int) (m' := t2.mo :: r) _ (by simp [e1', e2, cz])]
    have mk := mkL_ok (xs := ((zs.take k).map wd).map P.str) (m := t2.mo :: r) (by simp; omega)
    show (compL _ _ _ _ _ _ _).bindN mkL = _
    rw [← mk]
    exact congrArg (fun z => ER.bindN z mkL) (c1 _)
  unfold s__law_house b__law_house
  simp only [hB] at e3
  simp only [e_fnS, starts_eq, n__law_house]
  obtain ⟨us, hus⟩ : ∃ us, (zs.take k).map wd = us := ⟨_, rfl⟩
  rw [hus] at c2 so
  have iq : ∀ (δ : DS) (m : Mem), itOf (.p (.lst (ns.map P.str))) m = some ⟨ns.map P.str, fun _ => true⟩ := fun _ _ => rfl
  simp [-e_Lc, List.replicate_succ, c2, so, f0, it_lst, e3, gTuple_lst]
end DL

set_option Elab.async false
set_option linter.all false
set_option maxRecDepth 100000
set_option maxHeartbeats 2000000
/-! Plain part i: how the source of draws begins. -/
noncomputable section
namespace DL
open PySem PySem.Spec PyProof.Rows L2
theorem numd_ints (xs : List Int) : ∃ qs : List (Int × Int), numd (xs.map P.int) = qs.map fun q => .tup [.int q.1, .int q.2] := by
  refine ⟨xs.mapIdx fun i x => ((i : Int), x), ?_⟩
  unfold numd
  apply List.ext_getElem
  · simp
  · intro i h1 h2
    simp
abbrev beT : FG := (gT 2 (gsC (gN 2) (gsC (gN 3) gsN)))
abbrev beB : FS := (sAsgN (sOp pMod (sCall gInt (sCons (sOp pMul (sOp pAdd (sOp pAdd (sOp pAdd (sName 1) (sOp pMod (sCall gInt (sCons (sName 3) sNil)) (sC (.int 1000000007)))) (sOp pMul (sC (.int 31)) (sName 2))) (sC (.int 7))) (sC (.int 48271))) sNil)) (sC (.int 2147483647))) 1)
theorem begun_loop (d0 : D) (m : Mem) : ∀ (qs : List (Int × Int)) (tot : Int) (d2 d3 : D), ∃ (tot' : Int) (d2' d3' : D), forL beT beB (fun _ => true) (qs.map fun q => .tup [.int q.1, .int q.2]) [d0, .p (.int tot), d2, d3] m = .nx [d0, .p (.int tot'), d2', d3'] m
  | [], tot, d2, d3 => ⟨tot, d2, d3, by simp [forL]⟩
  | q :: qs, tot, d2, d3 => by
    have p1 : pMod (.int q.2) (.int 1000000007) = some (.int (q.2 % 1000000007)) := pMod_int (by decide)
    have p2 : pMul (.int 31) (.int q.1) = some (.int (31 * q.1)) := pMul_l (by decide)
    have p3 : ∀ a : Int, pMul (.int a) (.int 48271) = some (.int (a * 48271)) := fun a => pMul_r (by decide)
    have p4 : ∀ a : Int, pMod (.int a) (.int 2147483647) = some (.int (a % 2147483647)) := fun a => pMod_int (by decide)
    obtain ⟨t', d2', d3', e⟩ := begun_loop d0 m qs ((tot + q.2 % 1000000007 + 31 * q.1 + 7) * 48271 % 2147483647) (.p (.int q.1)) (.p (.int q.2))
    refine ⟨t', d2', d3', ?_⟩
    rw [List.map_cons, forL]
    simp [p1, p2, p3, p4]
    exact e
theorem begun_ok (ns : List Int) (h : ns.length ≤ 63) : ∃ t : Rnd, s__law_begun [.p (.lst (ns.map P.int))] [] = .ok (.ref 0) [t.mo] ∧ t.Ok 1000000 := by
  obtain ⟨qs, eq⟩ := numd_ints (ns.take 63)
  obtain ⟨tot, d2, d3, e⟩ := begun_loop (.p (.lst (ns.map P.int))) [] qs 17 .und .und
  refine ⟨⟨ns.filter fun i => decide (i ≥ 10 ^ 18), tot, 0⟩, ?_, Nat.le_trans (List.length_filter_le _ _) h, by show (0 : Int) ≤ 0; omega, by show (0 : Int) + 1000000 ≤ 2 ^ 60; omega⟩
  have pw : pPow (.int 10) (.int 18) = some (.int (10 ^ 18)) := by decide +kernel
  have cz : pSl (.lst (ns.map P.int)) none (some 63) = some (.lst ((ns.take 63).map P.int)) := by
    show some (P.lst (cut (ns.map P.int) none (some ((63 : Nat) : Int)))) = _
    rw [cut_to, List.map_take]
  have ge : ∀ i j : Int, pGe (.int i) (.int j) = some (.bl (decide (i ≥ j))) := fun _ _ => rfl
  have c1 : compL (gN 3) (sB (sOp pGe (sName 3) (sOp pPow (sC (.int 10)) (sC (.int 18))))) (elt (sName 3)) (fun _ => true) [.p (.lst (ns.map P.int)), .p (.int tot), d2, .und] (ns.map P.int) [] = .ok ((ns.filter fun i => decide (i ≥ 10 ^ 18)).map P.int) [] := by
    rw [compL_pure (fun x => match x with
      | .int i => decide (i ≥ 10 ^ 18)
      | _ => false) id]
    · rw [List.map_id, List.filter_map]
      rfl
    · intro x hx
      obtain ⟨i, hi, rfl⟩ := List.mem_map.mp hx
      exact ⟨[.p (.lst (ns.map P.int)), .p (.int tot), d2, .p (.int i)], by simp, by simp [pw, ge], fun _ => by simp⟩
  have l2 : sLc (sIt (sName 0)) (gN 3) (sB (sOp pGe (sName 3) (sOp pPow (sC (.int 10)) (sC (.int 18))))) (sName 3) [3] [.p (.lst (ns.map P.int)), .p (.int tot), d2, d3] [] = .ok (.p (nmL (ns.filter fun i => decide (i ≥ 10 ^ 18)))) [] := by
    rw [e_Lc, it_lst (sName 0) (xs := ns.map P.int) (m' := []) (by simp)]
    have lf := List.length_filter_le (fun i => decide (i ≥ 10 ^ 18)) ns
    have mk := mkL_ok (xs := (ns.filter fun i => decide (i ≥ 10 ^ 18)).map P.int) (m := []) (by rw [List.length_map]; omega)
    show (compL _ _ _ _ _ _ _).bindN mkL = ER.ok (.p (.lst _)) []
    rw [← mk]
    exact congrArg (fun z => ER.bindN z mkL) c1
  have i1 : sItE (sCons (sSl (sName 0) sNoPart (sPart (sC (.int 63)))) sNil) [.p (.lst (ns.map P.int)), .p (.int 17), .und, .und] [] = .ok ⟨qs.map fun q => .tup [.int q.1, .int q.2], fun _ => true⟩ [] := by
    rw [← eq]
    simp [cz]
  have dd : ∀ (x : P), mkD [(.str "great", x), (.str "seed", .int tot), (.str "at", .int 0)] [] = .ok (.ref 0) [some (.dK [kG, kS, kA] [x, .int tot, .int 0])] := fun x => by
    have kk : keysOf [(.str "great", x), (.str "seed", .int tot), (.str "at", .int 0)] = some [kG, kS, kA] := rfl
    unfold mkD
    rw [kk]
    show (if [kG, kS, kA].Nodup ∧ 3 ≤ 15 then _ else _) = _
    rw [if_pos (by decide +kernel)]
    rfl
  unfold s__law_begun b__law_begun
  simp only [beT, beB] at e
  simp only [e_fnS, starts_eq, n__law_begun]
  simp [-e_Lc, -e_ItE, List.replicate_succ, i1, e, sDisp, dPairs, l2, dd]
  rfl
end DL

set_option Elab.async false
set_option linter.all false
set_option maxRecDepth 100000
set_option maxHeartbeats 2000000
/-! Plain part j: small checks. -/
noncomputable section
namespace DL
open PySem PySem.Spec PyProof.Rows L2
@[simp] theorem is1 (i : Int) : isInt (.int i) = some true := id rfl
@[simp] theorem is2 (i : Int) : isBool (.int i) = some false := id rfl
@[simp] theorem is3 (xs : List P) : isTup (.tup xs) = some true := id rfl
@[simp] theorem is4 (s : Str) : isText (.str s) = some true := id rfl
@[simp] theorem pLe_ii (a b : Int) : pLe (.int a) (.int b) = some (.bl (decide (a ≤ b))) := id rfl
@[simp] theorem pLt_ii (a b : Int) : pLt (.int a) (.int b) = some (.bl (decide (a < b))) := id rfl
@[simp] theorem pGt_ii (a b : Int) : pGt (.int a) (.int b) = some (.bl (decide (a > b))) := id rfl
theorem whole_ok {v a b : Int} (h1 : a ≤ v) (h2 : v ≤ b) (m : Mem) : s_is_whole [.p (.int v), .p (.int a), .p (.int b)] m = .ok (.p (.bl true)) m := by
  unfold s_is_whole b_is_whole
  simp [n_is_whole, h1, h2]
theorem tuple_of_ok {xs : List P} {k : Int} (h : (xs.length : Int) = k) (m : Mem) : s_is_tuple_of [.p (.tup xs), .p (.int k)] m = .ok (.p (.bl true)) m := by
  unfold s_is_tuple_of b_is_tuple_of
  simp [n_is_tuple_of, h]
theorem bools_true : ∀ xs : List P, (∀ x ∈ xs, x = .bl true) → ∃ bs, bools xs = some bs ∧ bs.all id = true
  | [], _ => ⟨[], rfl, rfl⟩
  | x :: xs, h => by
    obtain ⟨bs, e, a⟩ := bools_true xs fun y hy => h y (List.mem_cons_of_mem _ hy)
    have := h x List.mem_cons_self
    subst this
    refine ⟨true :: bs, ?_, by simp at a ⊢; exact a⟩
    rw [bools, e]
    rfl
theorem gAll_true {xs : List P} (h : ∀ x ∈ xs, x = .bl true) : gAll [.lst xs] = some (.bl true) := by
  obtain ⟨bs, e, a⟩ := bools_true xs h
  show (bools xs).map _ = _
  rw [e]
  show some (P.bl (bs.all id)) = _
  rw [a]
/-- all of a comprehension whose elements all come out true -/
theorem all_ok {fi : FI} {g : FG} {fe : FE} {vs : List Nat} {δ : DS} {m : Mem} {xs : List P} (hi : fi δ m = .ok ⟨xs, fun _ => true⟩ m) (hl : xs.length ≤ 1000) (h : ∀ x ∈ xs, ∃ δ1, g (.p x) (wipeD δ vs) = some δ1 ∧ fe δ1 m = .ok (.p (.bl true)) m) :
    sCall gAll (sCons (sLc fi g sYes fe vs) sNil) δ m = .ok (.p (.bl true)) m := by
  have c : compL g sYes (elt fe) (fun _ => true) (wipeD δ vs) xs m = .ok (xs.map fun _ => P.bl true) m := by
    rw [compL_pure (fun _ => true) (fun _ => .bl true)]
    · rw [List.filter_eq_self.mpr (by simp)]
    · intro x hx
      obtain ⟨δ1, h1, h2⟩ := h x hx
      exact ⟨δ1, h1, rfl, fun _ => h2⟩
  have l : sLc fi g sYes fe vs δ m = .ok (.p (.lst (xs.map fun _ => P.bl true))) m := by
    rw [e_Lc, hi]
    have mk := mkL_ok (xs := xs.map fun _ => P.bl true) (m := m) (by rw [List.length_map]; exact hl)
    show (compL _ _ _ _ _ _ _).bindN mkL = _
    rw [← mk]
    exact congrArg (fun z => ER.bindN z mkL) c
  have ga : gAll [.lst (xs.map fun _ => P.bl true)] = some (.bl true) := gAll_true (by simp)
  simp [-e_Lc, l, ga]
theorem mem_paird {R : P → P → Prop} : ∀ {xs : List P}, xs.Pairwise R → ∀ x ∈ paird xs (xs.drop 1), ∃ a b, x = .tup [a, b] ∧ R a b
  | [], _, x, h => by simp [paird] at h
  | [y], _, x, h => by simp [paird] at h
  | y :: z :: xs, hp, x, h => by
    have e : paird (y :: z :: xs) ((y :: z :: xs).drop 1) = .tup [y, z] :: paird (z :: xs) ((z :: xs).drop 1) := rfl
    rw [e] at h
    rw [List.pairwise_cons] at hp
    rcases List.mem_cons.mp h with rfl | h
    · exact ⟨y, z, rfl, hp.1 z List.mem_cons_self⟩
    · exact mem_paird hp.2 x h
theorem cut_1 {α : Type} (xs : List α) : cut xs (some 1) none = xs.drop 1 := by
  unfold cut
  have e := HT.sIx_nat xs.length 0 1
  have e' : HT.sIx xs.length 0 (some 1) = min 1 xs.length := e
  rw [e', HT.sIx_none]
  cases xs with
  | nil => rfl
  | cons x xs =>
    have : min 1 (x :: xs).length = 1 := by simp
    rw [this]
    simp
theorem asc_ok {xs : List P} {R : P → P → Prop} (hp : xs.Pairwise R) (hR : ∀ a b, R a b → pLt a b = some (.bl true)) (hl : xs.length ≤ 100) (m : Mem) : s_is_ascending [.p (.tup xs)] m = .ok (.p (.bl true)) m := by
  have pr := mem_paird hp
  have cz : pSl (.tup xs) (some 1) none = some (.tup (xs.drop 1)) := by
    show some (P.tup (cut xs (some 1) none)) = _
    rw [cut_1]
  have i1 : sItZ (sCons (sName 0) (sCons (sSl (sName 0) (sPart (sC (.int 1))) sNoPart) sNil)) [.p (.tup xs), .und, .und] m = .ok ⟨paird xs (xs.drop 1), fun _ => true⟩ m := by
    simp [cz]
  have a := all_ok (g := gT 2 (gsC (gN 1) (gsC (gN 2) gsN))) (fe := sOp pLt (sName 1) (sName 2)) (vs := [1, 2]) i1 (by simp [paird]; omega) (fun x hx => by
    obtain ⟨u, v, rfl, hr⟩ := pr x hx
    exact ⟨[.p (.tup xs), .p u, .p v], by simp, by simp [hR u v hr]⟩)
  unfold s_is_ascending b_is_ascending
  simp [-e_Call, n_is_ascending, a]
end DL

set_option Elab.async false
set_option linter.all false
set_option maxRecDepth 100000
set_option maxHeartbeats 2000000
/-! Plain part k: edges, stands, books are as they should be. -/
noncomputable section
namespace DL
open PySem PySem.Spec PyProof.Rows L2
theorem sit_tup (fa : FE) {δ : DS} {m m' : Mem} {xs : List P} (h : fa δ m = .ok (.p (.tup xs)) m') : sIt fa δ m = .ok ⟨xs, fun _ => true⟩ m' := by
  rw [e_It, h]
  rfl
theorem asc_ints {xs : List Int} (h : xs.Pairwise (· < ·)) (hl : xs.length ≤ 100) (m : Mem) : s_is_ascending [.p (.tup (xs.map P.int))] m = .ok (.p (.bl true)) m := by
  refine asc_ok (R := fun a b => pLt a b = some (.bl true)) ?_ (fun _ _ h => h) (by simpa using hl) m
  rw [List.pairwise_map]
  exact h.imp fun {a b} h => by simp [h]
theorem asc_strs {xs : List Str} (h : xs.Pairwise wlt) (hl : xs.length ≤ 100) (m : Mem) : s_is_ascending [.p (.tup (xs.map P.str))] m = .ok (.p (.bl true)) m := by
  refine asc_ok (R := fun a b => pLt a b = some (.bl true)) ?_ (fun _ _ h => h) (by simpa using hl) m
  rw [List.pairwise_map]
  exact h.imp fun {a b} h => by
    show some (P.bl (decide (a.cps.toList < b.cps.toList))) = _
    rw [decide_eq_true (show a.cps.toList < b.cps.toList from h)]
theorem stands_ok {xs : List Int} {a k : Int} (h : xs.Pairwise (· < ·)) (hl : xs.length ≤ 100) (hx : ∀ i ∈ xs, a ≤ i ∧ i < k) (m : Mem) : s_is_stands [.p (numsT xs), .p (.int a), .p (.int k)] m = .ok (.p (.bl true)) m := by
  have c := all_ok (fi := sIt (sName 0)) (g := gN 3) (fe := sFn s_is_whole (sCons (sName 3) (sCons (sName 1) (sCons (sOp pSub (sName 2) (sC (.int 1))) sNil)))) (vs := [3]) (δ := [.p (numsT xs), .p (.int a), .p (.int k), .und]) (m := m) (xs := xs.map P.int) (sit_tup _ (by simp [numsT])) (by simp; omega) (fun x hx' => by
    obtain ⟨i, hi, rfl⟩ := List.mem_map.mp hx'
    have := hx i hi
    have w := whole_ok (v := i) (a := a) (b := k - 1) this.1 (by omega) m
    exact ⟨[.p (numsT xs), .p (.int a), .p (.int k), .p (.int i)], by simp, by simp [w]⟩)
  have s := asc_ints h hl m
  have e : P.tup (xs.map P.int) = numsT xs := rfl
  rw [e] at s
  have i0 : isTup (numsT xs) = some true := rfl
  unfold s_is_stands b_is_stands
  simp [-e_Call, n_is_stands, c, s, i0]
def sixW : List Str := ["calm", "held", "over", "rung", "unheld"]
def strong (a : Str) : Bool := decide (a ∈ (["calm", "held", "unheld"] : List Str))
theorem pIn_asks : ∀ a ∈ sixW, pIn false (.str a) k_ASKS = some (.bl true) := by
  intro a ha
  simp only [sixW, List.mem_cons, List.not_mem_nil, or_false] at ha
  rcases ha with rfl | rfl | rfl | rfl | rfl <;> rfl
theorem pIn_strong : ∀ a ∈ sixW, pIn false (.str a) (.tup [.str "calm", .str "held", .str "unheld"]) = some (.bl (strong a)) := by
  intro a ha
  simp only [sixW, List.mem_cons, List.not_mem_nil, or_false] at ha
  rcases ha with rfl | rfl | rfl | rfl | rfl <;> rfl
theorem asks_six : ∀ q ∈ asksT, ∀ a ∈ q, a ∈ sixW := by decide +kernel
theorem asks_asc : ∀ q ∈ asksT, q.Pairwise wlt := by
  unfold wlt
  decide +kernel
theorem asks_few : ∀ q ∈ asksT, (q.filter strong).length < 2 ∧ q.length ≤ 100 := by decide +kernel
theorem asks_fine {q : List Str} (hq : q ∈ asksT) (m : Mem) : s_is_asks [.p (txs q)] m = .ok (.p (.bl true)) m := by
  have six := asks_six q hq
  have few := asks_few q hq
  have c := all_ok (fi := sIt (sName 0)) (g := gN 1) (fe := sAndV (sIs isText (sName 1)) (sOp (pIn false) (sName 1) (sC k_ASKS))) (vs := [1]) (δ := [.p (txs q), .und]) (m := m) (xs := q.map P.str) (sit_tup _ (by simp [txs])) (by simp; omega) (fun x hx' => by
    obtain ⟨a, ha, rfl⟩ := List.mem_map.mp hx'
    exact ⟨[.p (txs q), .p (.str a)], by simp, by simp [pIn_asks a (six a ha)]⟩)
  have s : s_is_ascending [.p (txs q)] m = .ok (.p (.bl true)) m := asc_strs (asks_asc q hq) few.2 m
  have i0 : isTup (txs q) = some true := rfl
  have c2 : compL (gN 1) (sB (sOp (pIn false) (sName 1) (sTup (sCons (sC (.str "calm")) (sCons (sC (.str "held")) (sCons (sC (.str "unheld")) sNil)))))) (elt (sName 1)) (fun _ => true) [.p (txs q), .und] (q.map P.str) m = .ok ((q.filter strong).map P.str) m := by
    rw [compL_pure (fun x => match x with
      | .str a => strong a
      | _ => false) id]
    · rw [List.map_id, List.filter_map]
      rfl
    · intro x hx
      obtain ⟨a, ha, rfl⟩ := List.mem_map.mp hx
      exact ⟨[.p (txs q), .p (.str a)], by simp, by simp [pIn_strong a (six a ha)], fun _ => by simp⟩
  have l2 : sLc (sIt (sName 0)) (gN 1) (sB (sOp (pIn false) (sName 1) (sTup (sCons (sC (.str "calm")) (sCons (sC (.str "held")) (sCons (sC (.str "unheld")) sNil)))))) (sName 1) [1] [.p (txs q), .und] m = .ok (.p (.lst ((q.filter strong).map P.str))) m := by
    rw [e_Lc, sit_tup (sName 0) (xs := q.map P.str) (m' := m) (by simp [txs])]
    have mk := mkL_ok (xs := (q.filter strong).map P.str) (m := m) (by rw [List.length_map]; omega)
    show (compL _ _ _ _ _ _ _).bindN mkL = _
    rw [← mk]
    exact congrArg (fun z => ER.bindN z mkL) c2
  have l3 : sCall gLen (sCons (sLc (sIt (sName 0)) (gN 1) (sB (sOp (pIn false) (sName 1) (sTup (sCons (sC (.str "calm")) (sCons (sC (.str "held")) (sCons (sC (.str "unheld")) sNil)))))) (sName 1) [1]) sNil) [.p (txs q), .und] m = .ok (.p (.int ((q.filter strong).length))) m := by
    simp [-e_Lc, l2]
  have lt : ((q.filter strong).length : Int) < 2 := by omega
  unfold s_is_asks b_is_asks
  simp [-e_Call, n_is_asks, c, s, i0, l3, lt]
theorem edge_fine {x : Edge} {k : Int} (h : x.Ok k) (m : Mem) : s_is_edge [.p x.p, .p (.int k)] m = .ok (.p (.bl true)) m := by
  have t := tuple_of_ok (xs := [.int x.b, txs x.q, .str x.w, .int x.e]) (k := 4) rfl m
  have a := asks_fine h.q m
  have w1 := whole_ok (v := x.b) (a := 0) (b := k - 1) h.b0 (by have := h.b1; omega) m
  have w2 := whole_ok (v := x.e) (a := 0) (b := k - 1) h.e0 (by have := h.e1; omega) m
  have dd : pIn false (.str x.w) k_DEEDS = some (.bl true) := by
    have hw := h.w
    simp only [deedsT, List.mem_cons, List.not_mem_nil, or_false] at hw
    rcases hw with e | e | e | e | e <;> rw [e] <;> rfl
  have x0 : pIx x.p (.int 0) = some (.int x.b) := rfl
  have x1 : pIx x.p (.int 1) = some (txs x.q) := rfl
  have x2 : pIx x.p (.int 2) = some (.str x.w) := rfl
  have x3 : pIx x.p (.int 3) = some (.int x.e) := rfl
  have t' : s_is_tuple_of [.p x.p, .p (.int 4)] m = .ok (.p (.bl true)) m := t
  unfold s_is_edge b_is_edge
  simp [n_is_edge, t', a, w1, w2, dd, x0, x1, x2, x3]
end DL

set_option Elab.async false
set_option linter.all false
set_option maxRecDepth 100000
set_option maxHeartbeats 2000000
/-! Plain part l: kinds and houses are as they should be. -/
noncomputable section
namespace DL
open PySem PySem.Spec PyProof.Rows L2
theorem for_inv {g : FG} {fb : FS} {m : Mem} (I : DS → Prop) : ∀ {xs : List P} {δ : DS}, I δ → (∀ x ∈ xs, ∀ δ, I δ → ∃ δ1, g (.p x) δ = some δ1 ∧ I δ1 ∧ fb δ1 m = .nx δ1 m) → ∃ δ', forL g fb (fun _ => true) xs δ m = .nx δ' m ∧ I δ'
  | [], δ, h0, _ => ⟨δ, by simp [forL], h0⟩
  | x :: xs, δ, h0, h => by
    obtain ⟨δ1, e1, h1, e2⟩ := h x List.mem_cons_self δ h0
    obtain ⟨δ', e3, h3⟩ := for_inv I h1 fun y hy => h y (List.mem_cons_of_mem _ hy)
    refine ⟨δ', ?_, h3⟩
    rw [forL]
    simp [e1, e2, e3]
theorem mem_numd {xs : List P} {x : P} (h : x ∈ numd xs) : ∃ (i : Nat) (hi : i < xs.length), x = .tup [.int i, xs[i]] := by
  unfold numd at h
  obtain ⟨i, hi, rfl⟩ := List.mem_mapIdx.mp h
  exact ⟨i, hi, rfl⟩
theorem itE_tup {fa : FE} {δ : DS} {m m' : Mem} {xs : List P} (h : fa δ m = .ok (.p (.tup xs)) m') : sItE (sCons fa sNil) δ m = .ok ⟨numd xs, fun _ => true⟩ m' := by
  simp [h]
theorem ix_tup {xs : List P} {i : Nat} (h : i < xs.length) : pIx (.tup xs) (.int i) = some xs[i] := by
  have h' : (i : Int) < xs.length := by omega
  simp [pIx, atI, ixN, h', h]
theorem lt_edges {x y : Edge} (h : x.lt y) : pLt x.p y.p = some (.bl true) := by
  have c : x.p.fit = true ∧ y.p.plain = true ∧ PySem.W.alike x.p.py y.p.py = true := ⟨x.fit, y.plain, x.alike y⟩
  have e : pLtD x.p y.p = some (PySem.W.dataLt x.p.py y.p.py) := if_pos c
  have h' : PySem.W.dataLt x.p.py y.p.py = true := h
  show (pLtD x.p y.p).map P.bl = _
  rw [e, h']
  rfl
theorem edges_fine {es : List Edge} {k no : Int} (hl : es.length ≤ 24) (hp : es.Pairwise Edge.lt) (ok : ∀ e ∈ es, e.Ok k) (m : Mem) : s_need_edges [.p (.int no), .p (.int k), .p (.tup (es.map Edge.p))] m = .ok (.p .non) m := by
  have hr : ∀ (i : Nat) (h1 : i + 1 < (es.map Edge.p).length), pLt ((es.map Edge.p)[i]'(by omega)) ((es.map Edge.p)[i + 1]) = some (.bl true) := by
    intro i h1
    rw [List.getElem_map, List.getElem_map]
    rw [List.length_map] at h1
    exact lt_edges (List.pairwise_iff_getElem.mp hp i (i + 1) (by omega) h1 (by omega))
  obtain ⟨δ', e, d3, d4, rfl⟩ := for_inv (m := m) (g := gT 2 (gsC (gN 3) (gsC (gN 4) gsN))) (fb := sIfS (sOrB (sNotB (sB (sFn s_is_edge (sCons (sName 4) (sCons (sName 1) sNil))))) (sAndB (sB (sOp pGt (sName 3) (sC (.int 0)))) (sNotB (sB (sOp pLt (sOp pIx (sName 2) (sOp pSub (sName 3) (sC (.int 1)))) (sName 4)))))) sBad sNx) (fun δ => ∃ d3 d4, δ = [.p (.int no), .p (.int k), .p (.tup (es.map Edge.p)), d3, d4]) (xs := numd (es.map Edge.p)) (δ := [.p (.int no), .p (.int k), .p (.tup (es.map Edge.p)), .und, .und]) ⟨.und, .und, rfl⟩ (fun x hx δ ⟨d3, d4, hδ⟩ => by
    obtain ⟨i, hi, rfl⟩ := mem_numd hx
    subst hδ
    refine ⟨[.p (.int no), .p (.int k), .p (.tup (es.map Edge.p)), .p (.int i), .p ((es.map Edge.p)[i])], by simp, ⟨_, _, rfl⟩, ?_⟩
    have hi' : i < es.length := by simpa using hi
    have ef : s_is_edge [.p ((es.map Edge.p)[i]), .p (.int k)] m = .ok (.p (.bl true)) m := by
      rw [List.getElem_map]
      exact edge_fine (ok _ (List.getElem_mem hi')) m
    obtain ⟨y, hy⟩ : ∃ y, (es.map Edge.p)[i] = y := ⟨_, rfl⟩
    cases i with
    | zero =>
      rw [hy] at ef ⊢
      simp [ef]
    | succ j =>
      have r := hr j hi
      have x1 : pIx (.tup (es.map Edge.p)) (.int (((j + 1 : Nat) : Int) - 1)) = some ((es.map Edge.p)[j]'(by omega)) := by
        have : (((j + 1 : Nat) : Int) - 1) = (j : Int) := by omega
        rw [this]
        exact ix_tup (by omega)
      rw [hy] at ef r ⊢
      obtain ⟨z, hz⟩ : ∃ z : Int, ((j + 1 : Nat) : Int) = z := ⟨_, rfl⟩
      have hz0 : z > 0 := by omega
      rw [hz] at x1 ⊢
      obtain ⟨u, hu⟩ : ∃ u, (es.map Edge.p)[j]'(by omega) = u := ⟨_, rfl⟩
      rw [hu] at x1 r
      simp [ef, x1, r, hz0])
  have i0 : isTup (.tup (es.map Edge.p)) = some true := rfl
  have it := itE_tup (fa := sName 2) (δ := [.p (.int no), .p (.int k), .p (.tup (es.map Edge.p)), .und, .und]) (m := m) (m' := m) (xs := es.map Edge.p) (by simp)
  have l24 : ¬ ((24 : Int) < (es.length : Int)) := by omega
  unfold s_need_edges b_need_edges
  simp [-e_ItE, n_need_edges, List.replicate_succ, it, e, l24]
theorem below_fine {xs ns : List Str} (hs : xs.Sublist ns) (ha : ns.Pairwise wlt) (hl : ns.length ≤ 100) (m : Mem) : s_is_below [.p (.tup (xs.map P.str)), .p (.lst (ns.map P.str))] m = .ok (.p (.bl true)) m := by
  have lx : xs.length ≤ 100 := Nat.le_trans hs.length_le hl
  have inn : ∀ a ∈ xs, pIn false (.str a) (.lst (ns.map P.str)) = some (.bl true) := by
    intro a h
    have c : (P.str a).fit = true ∧ P.plainL (ns.map P.str) = true := ⟨rfl, plainL_txs ns⟩
    have e : pIn false (.str a) (.lst (ns.map P.str)) = some (.bl (xor false ((ns.map P.str).any fun y => P.eqv y (.str a)))) := if_pos c
    have e2 : ((ns.map P.str).any fun y => P.eqv y (.str a)) = true := by
      rw [List.any_eq_true]
      exact ⟨.str a, List.mem_map_of_mem (hs.subset h), by simp [P.eqv]⟩
    rw [e, e2]
    rfl
  have c := all_ok (fi := sIt (sName 0)) (g := gN 2) (fe := sAndV (sIs isText (sName 2)) (sOp (pIn false) (sName 2) (sName 1))) (vs := [2]) (δ := [.p (.tup (xs.map P.str)), .p (.lst (ns.map P.str)), .und]) (m := m) (xs := xs.map P.str) (sit_tup _ (by simp)) (by simp; omega) (fun x hx' => by
    obtain ⟨a, h, rfl⟩ := List.mem_map.mp hx'
    exact ⟨[.p (.tup (xs.map P.str)), .p (.lst (ns.map P.str)), .p (.str a)], by simp, by simp [inn a h]⟩)
  have s := asc_strs (ha.sublist hs) lx m
  unfold s_is_below b_is_below
  simp [-e_Call, n_is_below, List.replicate_succ, c, s]
theorem asc_len : ∀ {ys : List Int} {lo hi : Int}, ys.Pairwise (· < ·) → (∀ i ∈ ys, lo ≤ i ∧ i < hi) → lo ≤ hi → (ys.length : Int) ≤ hi - lo
  | [], lo, hi, _, _, h => by simp; omega
  | y :: ys, lo, hi, hp, hb, h => by
    rw [List.pairwise_cons] at hp
    have hy := hb y List.mem_cons_self
    have := asc_len (lo := y + 1) (hi := hi) hp.2 (fun i hi => by
      have h1 := hp.1 i hi
      have h2 := hb i (List.mem_cons_of_mem _ hi)
      exact ⟨by omega, h2.2⟩) (by omega)
    rw [List.length_cons]
    omega
theorem kind_fine {x : Rm} {ns : List Str} (h : x.Ok ns) (ha : ns.Pairwise wlt) (hl : ns.length ≤ 100) (no : Int) (m : Mem) : s_need_kind [.p (.int no), .p (.tup [x.bk.p, .tup (x.below.map P.str)]), .p (.lst (ns.map P.str))] m = .ok (.p .non) m := by
  have b := h.bk
  have lu : ∀ {ys : List Int} {lo : Int}, lo ≥ 0 → ys.Pairwise (· < ·) → (∀ i ∈ ys, lo ≤ i ∧ i < x.bk.n) → ys.length ≤ 100 := by
    intro ys lo h1 h2 h3
    by_cases h : lo ≤ x.bk.n
    · have := asc_len h2 h3 h
      have := b.n2
      omega
    · cases ys with
      | nil => simp
      | cons y ys =>
        have := h3 y List.mem_cons_self
        omega
  have w := whole_ok (v := x.bk.n) (a := 1) (b := 6) b.n1 (by have := b.n2; omega) m
  have s1 := stands_ok b.up (lu (by omega) b.up b.upI) b.upI m
  have s2 := stands_ok b.deaf (lu (by omega) b.deaf b.deafI) b.deafI m
  have s3 := edges_fine (no := no) (by have := h.few; omega) b.es b.esI m
  have s4 := below_fine h.below ha hl m
  obtain ⟨nm, ⟨n, up, deaf, es⟩, be⟩ := x
  dsimp only at w s1 s2 s3 s4
  unfold s_need_kind b_need_kind
  simp [Book.p, n_need_kind, List.replicate_succ, w, s1, s2, s3, s4]
end DL

set_option Elab.async false
set_option linter.all false
set_option maxRecDepth 100000
set_option maxHeartbeats 2000000
/-! Plain part m: houses, names, edges. -/
noncomputable section
namespace DL
open PySem PySem.Spec PyProof.Rows L2
theorem word_fine {w : Str} (h : w ∈ wds) (m : Mem) : s_is_word [.p (.str w)] m = .ok (.p (.bl true)) m := by
  have key : b_is_word [.p (.str w), .und] m = .rt (.p (.bl true)) m := by
    simp only [wds, List.mem_cons, List.not_mem_nil, or_false] at h
    rcases h with rfl | rfl | rfl | rfl <;> rfl
  show fin m.length (b_is_word [.p (.str w), .und] m) = _
  rw [key]
  show ER.ok (D.p (P.bl true)) (m.take m.length) = _
  rw [List.take_length]
theorem pair_fine {x : Rm} (h : x.name ∈ wds) (m : Mem) : s_is_pair [.p x.p] m = .ok (.p (.bl true)) m := by
  have t1 : s_is_tuple_of [.p x.p, .p (.int 2)] m = .ok (.p (.bl true)) m := tuple_of_ok (xs := [.str x.name, .tup [x.bk.p, .tup (x.below.map P.str)]]) (k := 2) rfl m
  have t2 : s_is_tuple_of [.p (.tup [x.bk.p, .tup (x.below.map P.str)]), .p (.int 2)] m = .ok (.p (.bl true)) m := tuple_of_ok (k := 2) rfl m
  have t3 : s_is_tuple_of [.p x.bk.p, .p (.int 4)] m = .ok (.p (.bl true)) m := tuple_of_ok (xs := [.int x.bk.n, numsT x.bk.up, numsT x.bk.deaf, .tup (x.bk.es.map Edge.p)]) (k := 4) rfl m
  have w := word_fine h m
  have x0 : pIx x.p (.int 0) = some (.str x.name) := rfl
  have x1 : pIx x.p (.int 1) = some (.tup [x.bk.p, .tup (x.below.map P.str)]) := rfl
  have x2 : pIx (.tup [x.bk.p, .tup (x.below.map P.str)]) (.int 0) = some x.bk.p := rfl
  unfold s_is_pair b_is_pair
  simp [n_is_pair, t1, t2, t3, w, x0, x1, x2]
theorem house_fine {hs : List Rm} (h : HouseOk hs) (m : Mem) : s_need_house [.p (.tup (hs.map Rm.p))] m = .ok (.p (.tup (hs.map Rm.p))) m := by
  obtain ⟨hv, ehv⟩ : ∃ hv, P.tup (hs.map Rm.p) = hv := ⟨_, rfl⟩
  have l1 := h.l1
  have l2 := h.l2
  have hr : ∀ (i : Nat) (h1 : i + 1 < (hs.map Rm.p).length), ∃ a b, pIx ((hs.map Rm.p)[i]'(by omega)) (.int 0) = some a ∧ pIx ((hs.map Rm.p)[i + 1]) (.int 0) = some b ∧ pLt a b = some (.bl true) := by
    intro i h1
    rw [List.getElem_map, List.getElem_map]
    rw [List.length_map] at h1
    refine ⟨_, _, rfl, rfl, ?_⟩
    have q := List.pairwise_iff_getElem.mp h.asc i (i + 1) (by simp; omega) (by simpa using h1) (by omega)
    rw [List.getElem_map, List.getElem_map] at q
    show some (P.bl (decide (_ < _))) = _
    rw [decide_eq_true (show (hs[i]).name.cps.toList < (hs[i + 1]).name.cps.toList from q)]
  obtain ⟨δ', e1, d2, d3, rfl⟩ := for_inv (m := m) (g := gT 2 (gsC (gN 2) (gsC (gN 3) gsN))) (fb := sIfS (sOrB (sNotB (sB (sFn s_is_pair (sCons (sName 3) sNil)))) (sAndB (sB (sOp pGt (sName 2) (sC (.int 0)))) (sNotB (sB (sOp pLt (sOp pIx (sOp pIx (sName 0) (sOp pSub (sName 2) (sC (.int 1)))) (sC (.int 0))) (sOp pIx (sName 3) (sC (.int 0)))))))) sBad sNx) (fun δ => ∃ d2 d3, δ = [.p hv, .und, d2, d3, .und, .und]) (xs := numd (hs.map Rm.p)) (δ := [.p hv, .und, .und, .und, .und, .und]) ⟨.und, .und, rfl⟩ (fun x hx δ ⟨d2, d3, hδ⟩ => by
    obtain ⟨i, hi, rfl⟩ := mem_numd hx
    subst hδ
    refine ⟨[.p hv, .und, .p (.int i), .p ((hs.map Rm.p)[i]), .und, .und], by simp, ⟨_, _, rfl⟩, ?_⟩
    have hi' : i < hs.length := by simpa using hi
    have ef : s_is_pair [.p ((hs.map Rm.p)[i])] m = .ok (.p (.bl true)) m := by
      rw [List.getElem_map]
      exact pair_fine (h.mem _ (List.mem_map_of_mem (List.getElem_mem hi'))) m
    obtain ⟨y, hy⟩ : ∃ y, (hs.map Rm.p)[i] = y := ⟨_, rfl⟩
    cases i with
    | zero =>
      rw [hy] at ef ⊢
      simp [ef]
    | succ j =>
      obtain ⟨a, b, ra, rb, r⟩ := hr j hi
      have x1 : pIx hv (.int (((j + 1 : Nat) : Int) - 1)) = some ((hs.map Rm.p)[j]'(by omega)) := by
        have : (((j + 1 : Nat) : Int) - 1) = (j : Int) := by omega
        rw [this, ← ehv]
        exact ix_tup (by omega)
      rw [hy] at ef rb ⊢
      obtain ⟨z, hz⟩ : ∃ z : Int, ((j + 1 : Nat) : Int) = z := ⟨_, rfl⟩
      have hz0 : z > 0 := by omega
      rw [hz] at x1 ⊢
      obtain ⟨u, hu⟩ : ∃ u, (hs.map Rm.p)[j]'(by omega) = u := ⟨_, rfl⟩
      rw [hu] at x1 ra
      simp [ef, x1, ra, rb, r, hz0])
  have c2 : sLc (sIt (sName 0)) (gT 2 (gsC (gN 4) (gsC (gN 5) gsN))) sYes (sName 4) [4, 5] [.p hv, .und, d2, d3, .und, .und] m = .ok (.p (.lst ((hs.map Rm.name).map P.str))) m := by
    rw [e_Lc, sit_tup (sName 0) (xs := hs.map Rm.p) (m' := m) (by simp [← ehv])]
    have mk := mkL_ok (xs := (hs.map Rm.name).map P.str) (m := m) (by simp; omega)
    show (compL _ _ _ _ _ _ _).bindN mkL = _
    rw [← mk]
    refine Eq.trans (congrArg (fun z => ER.bindN z mkL) (a₂ := ER.ok ((hs.map Rm.name).map P.str) m) ?_) rfl
    refine (compL_pure (fun _ => true) (fun x => match x with
      | .tup [n, _] => n
      | x => x) ?_).trans ?_
    · intro x hx
      obtain ⟨y, hy, rfl⟩ := List.mem_map.mp hx
      exact ⟨[.p hv, .und, d2, d3, .p (.str y.name), .p (.tup [y.bk.p, .tup (y.below.map P.str)])], by simp [Rm.p], by simp, fun _ => by simp [Rm.p]⟩
    · rw [List.filter_eq_self.mpr (by simp), List.map_map, List.map_map]
      rfl
  obtain ⟨δ', e3, d4, d5, d6, rfl⟩ := for_inv (m := m) (g := gT 2 (gsC (gN 2) (gsC (gT 2 (gsC (gN 4) (gsC (gN 5) gsN))) gsN))) (fb := sDrop (sFn s_need_kind (sCons (sName 2) (sCons (sName 5) (sCons (sName 1) sNil))))) (fun δ => ∃ d4 d5 d6, δ = [.p hv, .p (.lst ((hs.map Rm.name).map P.str)), d4, d3, d5, d6]) (xs := numd (hs.map Rm.p)) (δ := [.p hv, .p (.lst ((hs.map Rm.name).map P.str)), d2, d3, .und, .und]) ⟨_, _, _, rfl⟩ (fun x hx δ ⟨d4, d5, d6, hδ⟩ => by
    obtain ⟨i, hi, rfl⟩ := mem_numd hx
    subst hδ
    have hi' : i < hs.length := by simpa using hi
    have kf := kind_fine (h.ok _ (List.getElem_mem hi')) h.asc (by simp; omega) i m
    refine ⟨[.p hv, .p (.lst ((hs.map Rm.name).map P.str)), .p (.int i), d3, .p (.str (hs[i]).name), .p (.tup [(hs[i]).bk.p, .tup ((hs[i]).below.map P.str)])], by simp [Rm.p], ⟨_, _, _, rfl⟩, ?_⟩
    obtain ⟨z, hz⟩ : ∃ z : Int, (i : Int) = z := ⟨_, rfl⟩
    rw [hz] at kf ⊢
    simp at kf ⊢
    simp [kf])
  have i0 : isTup hv = some true := by rw [← ehv]; rfl
  have g0 : gLen [hv] = some (.int hs.length) := by rw [← ehv]; simp
  have it := itE_tup (fa := sName 0) (δ := [.p hv, .und, .und, .und, .und, .und]) (m := m) (m' := m) (xs := hs.map Rm.p) (by simp [← ehv])
  have it2 := itE_tup (fa := sName 0) (δ := [.p hv, .p (.lst ((hs.map Rm.name).map P.str)), d2, d3, .und, .und]) (m := m) (m' := m) (xs := hs.map Rm.p) (by simp [← ehv])
  have q1 : (1 : Int) ≤ (hs.length : Int) := by omega
  have q2 : (hs.length : Int) ≤ 3 := by omega
  rw [ehv]
  clear ehv l1 l2
  obtain ⟨z, hz⟩ : ∃ z : Int, (hs.length : Int) = z := ⟨_, rfl⟩
  rw [hz] at g0 q1 q2
  obtain ⟨nms, hnms⟩ : ∃ z, (hs.map Rm.name).map P.str = z := ⟨_, rfl⟩
  rw [hnms] at c2 e3 it2
  unfold s_need_house b_need_house
  simp [-e_ItE, -e_Lc, n_need_house, List.replicate_succ, it, it2, e1, c2, e3, i0, g0, q1, q2]
end DL

set_option Elab.async false
set_option linter.all false
set_option maxRecDepth 100000
set_option maxHeartbeats 2000000
/-! Plain part n: names of, edges of. -/
noncomputable section
namespace DL
open PySem PySem.Spec PyProof.Rows L2
theorem compL_flat {g : FG} {f : DS → Mem → ER (List P)} {δ : DS} {m : Mem} (ys : P → List P) : ∀ {xs : List P}, (∀ x ∈ xs, ∃ δ1, g (.p x) δ = some δ1 ∧ f δ1 m = .ok (ys x) m) →
    compL g sYes f (fun _ => true) δ xs m = .ok (xs.flatMap ys) m
  | [], _ => rfl
  | x :: xs, h => by
    obtain ⟨δ1, h1, h2⟩ := h x List.mem_cons_self
    have ih := compL_flat ys (xs := xs) fun y hy => h y (List.mem_cons_of_mem _ hy)
    unfold compL
    rw [if_pos rfl, h1]
    dsimp only
    rw [e_Yes, ER.bindN_ok, if_pos rfl, h2, ER.bindN_ok, ih]
    rfl
def row (n : Str) (e : Edge) : P := .tup [.str n, e.p]
def rowsOf (hs : List Rm) : List P := hs.flatMap fun x => x.bk.es.map (row x.name)
theorem rows_len : ∀ (hs : List Rm), (∀ x ∈ hs, x.bk.es.length ≤ 14) → (rowsOf hs).length ≤ 14 * hs.length
  | [], _ => by simp [rowsOf]
  | x :: hs, h => by
    have ih := rows_len hs fun y hy => h y (List.mem_cons_of_mem _ hy)
    have h1 := h x List.mem_cons_self
    have e : rowsOf (x :: hs) = x.bk.es.map (row x.name) ++ rowsOf hs := by simp [rowsOf]
    rw [e, List.length_append, List.length_map, List.length_cons]
    omega
theorem names_comp {hs : List Rm} {δ : DS} {m : Mem} {i j : Nat} (hne : i ≠ j) (hi : i < δ.length) (hj : j < δ.length) :
    compL (gT 2 (gsC (gN i) (gsC (gN j) gsN))) sYes (elt (sName i)) (fun _ => true) δ (hs.map Rm.p) m = .ok ((hs.map Rm.name).map P.str) m := by
  refine (compL_pure (fun _ => true) (fun x => match x with
      | .tup [n, _] => n
      | x => x) ?_).trans ?_
  · intro x hx
    obtain ⟨y, hy, rfl⟩ := List.mem_map.mp hx
    have ex : (((δ.set i (.p (.str y.name))).set j (.p (.tup [y.bk.p, .tup (y.below.map P.str)])))[i]?) = some (.p (.str y.name)) := by
      rw [List.getElem?_set_ne (Ne.symm hne)]
      simp [hi]
    exact ⟨(δ.set i (.p (.str y.name))).set j (.p (.tup [y.bk.p, .tup (y.below.map P.str)])), by simp [Rm.p, hi, hj], by simp, fun _ => by simp [Rm.p, ex]⟩
  · rw [List.filter_eq_self.mpr (by simp), List.map_map, List.map_map]
    rfl
theorem names_of_ok {hs : List Rm} (h : HouseOk hs) (m : Mem) : s_names_of [.p (.tup (hs.map Rm.p))] m = .ok (.p (.tup ((hs.map Rm.name).map P.str))) m := by
  have f := house_fine h m
  have l2 := h.l2
  have e1 : s_names_in [.p (.tup (hs.map Rm.p))] m = .ok (.p (.lst ((hs.map Rm.name).map P.str))) m := by
    have c2 : sLc (sIt (sName 0)) (gT 2 (gsC (gN 1) (gsC (gN 2) gsN))) sYes (sName 1) [1, 2] [.p (.tup (hs.map Rm.p)), .und, .und] m = .ok (.p (.lst ((hs.map Rm.name).map P.str))) m := by
      rw [e_Lc, sit_tup (sName 0) (xs := hs.map Rm.p) (m' := m) (by simp)]
      have mk := mkL_ok (xs := (hs.map Rm.name).map P.str) (m := m) (by simp; omega)
      show (compL _ _ _ _ _ _ _).bindN mkL = _
      rw [← mk]
      refine Eq.trans (congrArg (fun z => ER.bindN z mkL) (a₂ := ER.ok ((hs.map Rm.name).map P.str) m) ?_) rfl
      exact names_comp (by decide) (by simp) (by simp)
    unfold s_names_in b_names_in
    simp [-e_Lc, n_names_in, List.replicate_succ, c2]
  unfold s_names_of b_names_of
  obtain ⟨hv, ehv⟩ : ∃ hv, P.tup (hs.map Rm.p) = hv := ⟨_, rfl⟩
  obtain ⟨nms, hnms⟩ : ∃ z, (hs.map Rm.name).map P.str = z := ⟨_, rfl⟩
  rw [ehv] at f e1 ⊢
  rw [hnms] at e1 ⊢
  simp [n_names_of, List.replicate_succ, f, e1, gTuple_lst]
theorem edges_of_ok {hs : List Rm} (h : HouseOk hs) (m : Mem) : s_edges_of [.p (.tup (hs.map Rm.p))] m = .ok (.p (.tup (rowsOf hs))) m := by
  have f := house_fine h m
  have l2 := h.l2
  have lr := rows_len hs fun x hx => (h.ok x hx).few
  have e1 : s_edges_in [.p (.tup (hs.map Rm.p))] m = .ok (.p (.lst (rowsOf hs))) m := by
    have c2 : sLc2 (sIt (sName 0)) (gT 2 (gsC (gN 2) (gsC (gT 2 (gsC (gN 3) (gsC (gN 4) gsN))) gsN))) sYes (sIt (sOp pIx (sName 3) (sC (.int 3)))) (gN 1) sYes (sTup (sCons (sName 2) (sCons (sName 1) sNil))) [2, 3, 4, 1] [1] [.p (.tup (hs.map Rm.p)), .und, .und, .und, .und] m = .ok (.p (.lst (rowsOf hs))) m := by
      rw [e_Lc2, sit_tup (sName 0) (xs := hs.map Rm.p) (m' := m) (by simp)]
      have mk := mkL_ok (xs := rowsOf hs) (m := m) (by omega)
      show (compL _ _ _ _ _ _ _).bindN mkL = _
      rw [← mk]
      refine Eq.trans (congrArg (fun z => ER.bindN z mkL) (a₂ := ER.ok (rowsOf hs) m) ?_) rfl
      refine (compL_flat (fun x => match x with
        | .tup [.str n, .tup [.tup [_, _, _, .tup es], _]] => es.map fun e => .tup [.str n, e]
        | _ => []) ?_).trans ?_
      · intro x hx
        obtain ⟨y, hy, rfl⟩ := List.mem_map.mp hx
        refine ⟨[.p (.tup (hs.map Rm.p)), .und, .p (.str y.name), .p y.bk.p, .p (.tup (y.below.map P.str))], by simp [Rm.p], ?_⟩
        have x3 : pIx y.bk.p (.int 3) = some (.tup (y.bk.es.map Edge.p)) := rfl
        have i1 : sIt (sOp pIx (sName 3) (sC (.int 3))) [.p (.tup (hs.map Rm.p)), .und, .p (.str y.name), .p y.bk.p, .p (.tup (y.below.map P.str))] m = .ok ⟨y.bk.es.map Edge.p, fun _ => true⟩ m := sit_tup _ (by simp [x3])
        show (sIt _ _ m).bindN _ = _
        rw [i1, ER.bindN_ok]
        refine (compL_pure (fun _ => true) (fun e => .tup [.str y.name, e]) ?_).trans ?_
        · intro e he
          exact ⟨[.p (.tup (hs.map Rm.p)), .p e, .p (.str y.name), .p y.bk.p, .p (.tup (y.below.map P.str))], by simp, by simp, fun _ => by simp⟩
        · rw [List.filter_eq_self.mpr (by simp)]
          rfl
      · congr 1
        rw [List.flatMap_map]
        simp only [rowsOf]
        congr 1
        funext y
        show (y.bk.es.map Edge.p).map _ = _
        rw [List.map_map]
        rfl
    unfold s_edges_in b_edges_in
    simp [-e_Lc2, n_edges_in, List.replicate_succ, c2]
  unfold s_edges_of b_edges_of
  obtain ⟨hv, ehv⟩ : ∃ hv, P.tup (hs.map Rm.p) = hv := ⟨_, rfl⟩
  obtain ⟨nms, hnms⟩ : ∃ z, rowsOf hs = z := ⟨_, rfl⟩
  rw [ehv] at f e1 ⊢
  rw [hnms] at e1 ⊢
  simp [n_edges_of, List.replicate_succ, f, e1, gTuple_lst]
end DL

set_option Elab.async false
set_option linter.all false
set_option maxRecDepth 100000
set_option maxHeartbeats 2000000
/-! Plain part o: how long shown values are. -/
noncomputable section
namespace DL
open PySem PySem.Spec PyProof.Rows L2
theorem join_le (B : Nat) : ∀ ts : List Str, (∀ t ∈ ts, t.length ≤ B) → (Str.join ", " ts).length ≤ ts.length * (B + 2)
  | [], _ => by show (0 : Nat) ≤ _; omega
  | [x], h => by
    have := h x List.mem_cons_self
    show x.length ≤ 1 * (B + 2)
    omega
  | x :: y :: r, h => by
    have ih := join_le B (y :: r) fun t ht => h t (List.mem_cons_of_mem _ ht)
    have h1 := h x List.mem_cons_self
    have e2 : ((", " : String) : Str).length = 2 := rfl
    show (x ++ ", " ++ Str.join ", " (y :: r)).length ≤ (r.length + 1 + 1) * (B + 2)
    rw [strLen_append, strLen_append, e2]
    rw [List.length_cons] at ih
    rw [Nat.add_mul (r.length + 1) 1]
    omega
theorem tup_le (B : Nat) (ts : List Str) (h : ∀ t ∈ ts, t.length ≤ B) : (tupleText ts).length ≤ 3 + ts.length * (B + 2) := by
  have j := join_le B ts h
  unfold tupleText
  rw [strLen_append, strLen_append]
  have e1 : ((("(" : String) : Str)).length = 1 := rfl
  have e2 : (((if ts.length == 1 then ",)" else ")" : String) : Str)).length ≤ 2 := by split <;> decide
  rw [e1]
  omega
theorem from_le (B : Nat) : ∀ (ts : List Str) (k : Nat) (acc : Str), (∀ t ∈ ts, t.length ≤ B) → (textFrom k acc ts).length ≤ acc.length + ts.length * (B + 2)
  | [], k, acc, _ => by show acc.length ≤ _; omega
  | t :: r, k, acc, h => by
    have ih := from_le B r (k + 1) (acc ++ (if k > 0 then ", " else "" : String) ++ t) fun t ht => h t (List.mem_cons_of_mem _ ht)
    have h1 := h t List.mem_cons_self
    have e : (acc ++ (if k > 0 then ", " else "" : String) ++ t).length = acc.length + (if k > 0 then 2 else 0) + t.length := by
      rw [strLen_append, strLen_append]
      split <;> rfl
    have e2 : (if k > 0 then 2 else 0 : Nat) ≤ 2 := by split <;> omega
    show (textFrom (k + 1) _ r).length ≤ acc.length + (r.length + 1) * (B + 2)
    rw [Nat.add_mul r.length 1]
    omega
theorem lst_le (B : Nat) (ts : List Str) (h : ∀ t ∈ ts, t.length ≤ B) : (listText ts).length ≤ 3 + ts.length * (B + 2) := by
  have j := from_le B ts 0 "[" h
  unfold listText
  rw [strLen_append]
  have e1 : ((("[" : String) : Str)).length = 1 := rfl
  have e2 : ((("]" : String) : Str)).length = 1 := rfl
  rw [e2]
  rw [e1] at j
  omega
/-- it may be shown, in B letters at most -/
def Sh (B : Nat) (x : P) : Prop := x.py.showable = true ∧ x.py.shown.length ≤ B
theorem Sh.le {B C : Nat} {x : P} (h : Sh B x) (hc : B ≤ C) : Sh C x := ⟨h.1, Nat.le_trans h.2 hc⟩
theorem sh_all {B : Nat} : ∀ {xs : List P}, (∀ x ∈ xs, Sh B x) → PyData.showableAll (P.pyL xs) = true ∧ (∀ t ∈ PyData.shownAll (P.pyL xs), t.length ≤ B) ∧ (PyData.shownAll (P.pyL xs)).length = xs.length
  | [], _ => by simp [P.pyL, PyData.showableAll, PyData.shownAll]
  | x :: xs, h => by
    obtain ⟨h1, h2, h3⟩ := sh_all fun y hy => h y (List.mem_cons_of_mem _ hy)
    have hx := h x List.mem_cons_self
    refine ⟨?_, ?_, ?_⟩
    · rw [P.pyL, PyData.showableAll, hx.1, h1]; rfl
    · rw [P.pyL, PyData.shownAll]
      intro t ht
      rcases List.mem_cons.mp ht with rfl | ht
      · exact hx.2
      · exact h2 t ht
    · rw [P.pyL, PyData.shownAll, List.length_cons, h3, List.length_cons]
theorem sh_tup {B : Nat} {xs : List P} (h : ∀ x ∈ xs, Sh B x) : Sh (3 + xs.length * (B + 2)) (.tup xs) := by
  obtain ⟨h1, h2, h3⟩ := sh_all h
  refine ⟨by rw [P.py, PyData.showable]; exact h1, ?_⟩
  rw [P.py, PyData.shown, ← h3]
  exact tup_le B _ h2
theorem sh_lst {B : Nat} {xs : List P} (h : ∀ x ∈ xs, Sh B x) : Sh (3 + xs.length * (B + 2)) (.lst xs) := by
  obtain ⟨h1, h2, h3⟩ := sh_all h
  refine ⟨by rw [P.py, PyData.showable]; exact h1, ?_⟩
  rw [P.py, PyData.shown, ← h3]
  exact lst_le B _ h2
theorem sh_small {i : Int} (h0 : 0 ≤ i) (h1 : i < 6) : Sh 30 (.int i) := by
  have : i = 0 ∨ i = 1 ∨ i = 2 ∨ i = 3 ∨ i = 4 ∨ i = 5 := by omega
  rcases this with rfl | rfl | rfl | rfl | rfl | rfl <;> exact ⟨by decide +kernel, by decide +kernel⟩
theorem sh_asks : ∀ q ∈ asksT, (txs q).py.showable = true ∧ (txs q).py.shown.length ≤ 30 := by decide +kernel
theorem sh_deeds : ∀ q ∈ deedsT, (P.str q).py.showable = true ∧ (P.str q).py.shown.length ≤ 30 := by decide +kernel
theorem sh_wds : ∀ q ∈ wds, (P.str q).py.showable = true ∧ (P.str q).py.shown.length ≤ 30 := by decide +kernel
theorem sh_edge {x : Edge} {k : Int} (h : x.Ok k) (hk : k ≤ 6) : Sh 131 x.p := by
  refine (sh_tup (B := 30) (xs := [.int x.b, txs x.q, .str x.w, .int x.e]) fun y hy => ?_).le (by simp)
  simp only [List.mem_cons, List.not_mem_nil, or_false] at hy
  rcases hy with rfl | rfl | rfl | rfl
  · exact sh_small h.b0 (by have := h.b1; omega)
  · exact sh_asks _ h.q
  · exact sh_deeds _ h.w
  · exact sh_small h.e0 (by have := h.e1; omega)
theorem sh_row {n : Str} {x : Edge} {k : Int} (hn : n ∈ wds) (h : x.Ok k) (hk : k ≤ 6) : Sh 300 (row n x) := by
  refine (sh_tup (B := 131) (xs := [.str n, x.p]) fun y hy => ?_).le (by simp)
  simp only [List.mem_cons, List.not_mem_nil, or_false] at hy
  rcases hy with rfl | rfl
  · exact Sh.le (sh_wds _ hn) (by omega)
  · exact sh_edge h hk
def due (hs : List Rm) : P := .lst [.tup ((hs.map Rm.name).map P.str), .tup (rowsOf hs)]
theorem sh_due {hs : List Rm} (h : HouseOk hs) : Sh 60000 (due hs) := by
  have l2 := h.l2
  have lr := rows_len hs fun x hx => (h.ok x hx).few
  have a : Sh 20000 (.tup ((hs.map Rm.name).map P.str)) := by
    refine (sh_tup (B := 30) fun y hy => ?_).le (by simp; omega)
    obtain ⟨n, hn, rfl⟩ := List.mem_map.mp hy
    exact sh_wds _ (h.mem n hn)
  have b : Sh 20000 (.tup (rowsOf hs)) := by
    refine (sh_tup (B := 300) fun y hy => ?_).le (by omega)
    unfold rowsOf at hy
    obtain ⟨x, hx, hy⟩ := List.mem_flatMap.mp hy
    obtain ⟨e, he, rfl⟩ := List.mem_map.mp hy
    have ok := h.ok x hx
    exact sh_row (h.mem _ (List.mem_map_of_mem hx)) (ok.bk.esI e he) ok.bk.n2
  refine (sh_lst (B := 20000) fun y hy => ?_).le (by simp)
  simp only [List.mem_cons, List.not_mem_nil, or_false] at hy
  rcases hy with rfl | rfl
  · exact a
  · exact b
end DL

set_option Elab.async false
set_option linter.all false
set_option maxRecDepth 100000
set_option maxHeartbeats 2000000
/-! Plain part p: the rows lie sorted. -/
noncomputable section
namespace DL
open PySem PySem.Spec PyProof.Rows L2
theorem lt_asym {a b : P} (h : PySem.W.dataLt a.py b.py = true) : PySem.W.dataLt b.py a.py = false := by
  have t := le_tot.total a b
  have e1 : P.le a b = !PySem.W.dataLt b.py a.py := rfl
  have e2 : P.le b a = !PySem.W.dataLt a.py b.py := rfl
  rw [e1, e2, h] at t
  simpa using t
theorem lt_irr (a : P) : PySem.W.dataLt a.py a.py = false := by
  cases q : PySem.W.dataLt a.py a.py with
  | false => rfl
  | true => exact q.symm.trans (lt_asym q)
theorem row_le_same {n : Str} {x y : Edge} (h : x.lt y) : P.le (row n x) (row n y) = true := by
  have e : P.le (row n x) (row n y) = !PySem.W.dataLt (row n y).py (row n x).py := rfl
  have d := PySem.W.dataLt_pair (x := (P.str n).py) (x' := (P.str n).py) (y := y.p.py) (y' := x.p.py) (by simp [P.py, PySem.W.alike]) (y.alike x)
  have d' : PySem.W.dataLt (row n y).py (row n x).py = _ := d
  have h1 : PySem.W.dataLt x.p.py y.p.py = true := h
  rw [e, d', lt_asym h1, lt_irr]
  split <;> simp
theorem wds_gt : ∀ x ∈ wds, ∀ y ∈ wds, wlt x y → PyData.eqv (P.str y).py (P.str x).py = false ∧ PySem.W.dataLt (P.str y).py (P.str x).py = false := by
  unfold wlt
  decide +kernel
theorem row_le_ne {n k : Str} {x y : Edge} (hn : n ∈ wds) (hk : k ∈ wds) (h : wlt n k) : P.le (row n x) (row k y) = true := by
  have e : P.le (row n x) (row k y) = !PySem.W.dataLt (row k y).py (row n x).py := rfl
  have d := PySem.W.dataLt_pair (x := (P.str k).py) (x' := (P.str n).py) (y := y.p.py) (y' := x.p.py) (by simp [P.py, PySem.W.alike]) (y.alike x)
  have d' : PySem.W.dataLt (row k y).py (row n x).py = _ := d
  have g := wds_gt n hn k hk h
  rw [e, d', g.1, g.2]
  rfl
theorem rows_asc {hs : List Rm} (h : HouseOk hs) : (rowsOf hs).Pairwise fun a b => P.le a b = true := by
  unfold rowsOf
  rw [List.pairwise_flatMap]
  refine ⟨fun x hx => ?_, ?_⟩
  · rw [List.pairwise_map]
    exact (h.ok x hx).bk.es.imp fun q => row_le_same q
  · have a := h.asc
    rw [List.pairwise_map] at a
    refine a.imp_of_mem fun {x y} hx hy q => ?_
    intro u hu v hv
    obtain ⟨e, _, rfl⟩ := List.mem_map.mp hu
    obtain ⟨e', _, rfl⟩ := List.mem_map.mp hv
    exact row_le_ne (h.mem _ (List.mem_map_of_mem hx)) (h.mem _ (List.mem_map_of_mem hy)) q
theorem mem_rows {hs : List Rm} {a : P} (h : a ∈ rowsOf hs) : ∃ n e, a = row n e := by
  unfold rowsOf at h
  obtain ⟨x, hx, hy⟩ := List.mem_flatMap.mp h
  obtain ⟨e, he, rfl⟩ := List.mem_map.mp hy
  exact ⟨_, _, rfl⟩
theorem plainL_of : ∀ {xs : List P}, (∀ x ∈ xs, x.plain = true) → P.plainL xs = true
  | [], _ => rfl
  | x :: xs, h => by rw [P.plainL, h x List.mem_cons_self, plainL_of fun y hy => h y (List.mem_cons_of_mem _ hy)]; rfl
theorem depL_of {k : Nat} : ∀ {xs : List P}, (∀ x ∈ xs, x.dep ≤ k) → P.depL xs ≤ k
  | [], _ => by simp [P.depL]
  | x :: xs, h => by
    have h1 := h x List.mem_cons_self
    have h2 := depL_of fun y hy => h y (List.mem_cons_of_mem _ hy)
    rw [P.depL]
    omega
theorem row_plain (n : Str) (e : Edge) : (row n e).plain = true := by simp [row, P.plain, P.plainL, e.plain]
theorem row_dep (n : Str) (e : Edge) : (row n e).dep = 3 := by simp [row, P.dep, P.depL, e.dep]
theorem rows_sorted {hs : List Rm} (h : HouseOk hs) : gSorted [.lst (rowsOf hs)] = some (rowsOf hs) := by
  have c : P.plainL (rowsOf hs) = true ∧ alikeL (rowsOf hs) = true ∧ ((rowsOf hs).all P.rows = true ∨ (rowsOf hs).all P.item = true) ∧ ((rowsOf hs).all fun x => decide (x.dep ≤ 100)) = true := by
    refine ⟨plainL_of fun x hx => ?_, ?_, .inl ?_, ?_⟩
    · obtain ⟨n, e, rfl⟩ := mem_rows hx
      exact row_plain n e
    · unfold alikeL
      rw [List.all_eq_true]
      intro a ha
      rw [List.all_eq_true]
      intro b hb
      obtain ⟨n, e, rfl⟩ := mem_rows ha
      obtain ⟨n', e', rfl⟩ := mem_rows hb
      simp [row, P.py, P.pyL, PySem.W.alike, PySem.W.alikeAll, e.alike e']
    · rw [List.all_eq_true]
      intro a ha
      obtain ⟨n, e, rfl⟩ := mem_rows ha
      rfl
    · rw [List.all_eq_true]
      intro a ha
      obtain ⟨n, e, rfl⟩ := mem_rows ha
      rw [row_dep]
      decide
  have e : gSorted [.lst (rowsOf hs)] = some ((rowsOf hs).mergeSort P.le) := if_pos c
  rw [e, List.mergeSort_of_pairwise (rows_asc h)]
theorem due_repr {hs : List Rm} (h : HouseOk hs) : gRepr [due hs] = some (.str (due hs).py.shown) := by
  have s := sh_due h
  have p1 : (P.tup ((hs.map Rm.name).map P.str)).plain = true := by rw [P.plain]; exact plainL_txs _
  have p2 : (P.tup (rowsOf hs)).plain = true := by
    have : P.plainL (rowsOf hs) = true := plainL_of fun x hx => by
      obtain ⟨n, e, rfl⟩ := mem_rows hx
      exact row_plain n e
    simp [P.plain, this]
  have p : (due hs).plain = true := by simp [due, P.plain, P.plainL] at p1 p2 ⊢; exact ⟨p1, p2⟩
  have d2 : P.depL (rowsOf hs) ≤ 3 := depL_of fun x hx => by
    obtain ⟨n, e, rfl⟩ := mem_rows hx
    rw [row_dep]
    omega
  have d1 : P.depL ((hs.map Rm.name).map P.str) = 0 := depL_txs _
  have d : (due hs).dep ≤ 100 := by
    simp only [due, P.dep, P.depL, d1]
    omega
  have sh : (due hs).shows = true := by
    unfold P.shows
    rw [p, s.1, decide_eq_true d, decide_eq_true (Nat.le_trans s.2 (by decide))]
    rfl
  exact if_pos sh
end DL

set_option Elab.async false
set_option linter.all false
set_option maxRecDepth 100000
set_option maxHeartbeats 4000000
/-! Plain part q: the law. -/
noncomputable section
namespace DL
open PySem PySem.Spec PyProof.Rows L2
theorem like_ok {x : P} {s : Str} (h : gRepr [x] = some (.str s)) (m : Mem) : s__law_like [.p x, .p x] m = .ok (.p (.bl true)) m := by
  have e : pEq (.str s) (.str s) = some (.bl true) := by simp [pEq, P.eqv, P.fit, P.plain, P.dep]
  unfold s__law_like b__law_like
  simp [n__law_like, h, e]
abbrev lG : FG := (gT 2 (gsC (gN 6) (gsC (gN 7) gsN)))
abbrev lB : FS := (sAsgN (sOp pAdd (sName 5) (sLc (sIt (sOp pIx (sOp pIx (sName 7) (sC (.int 0))) (sC (.int 3)))) (gN 8) sYes (sTup (sCons (sName 6) (sCons (sName 8) sNil))) [8])) 5)
theorem rows_loop (d0 d1 d2 d3 d4 : D) (m : Mem) : ∀ (hs : List Rm) (acc : List P) (d6 d7 : D), (∀ x ∈ hs, x.bk.es.length ≤ 14) → acc.length + 14 * hs.length ≤ 1000 →
    ∃ d6' d7', forL lG lB (fun _ => true) (hs.map Rm.p) [d0, d1, d2, d3, d4, .p (.lst acc), d6, d7, .und] m = .nx [d0, d1, d2, d3, d4, .p (.lst (acc ++ rowsOf hs)), d6', d7', .und] m
  | [], acc, d6, d7, _, _ => ⟨d6, d7, by simp [forL, rowsOf]⟩
  | x :: hs, acc, d6, d7, h, hl => by
    rw [List.length_cons] at hl
    have h1 := h x List.mem_cons_self
    obtain ⟨d6', d7', e⟩ := rows_loop d0 d1 d2 d3 d4 m hs (acc ++ x.bk.es.map (row x.name)) (.p (.str x.name)) (.p (.tup [x.bk.p, .tup (x.below.map P.str)])) (fun y hy => h y (List.mem_cons_of_mem _ hy)) (by simp; omega)
    refine ⟨d6', d7', ?_⟩
    have x0 : pIx (.tup [x.bk.p, .tup (x.below.map P.str)]) (.int 0) = some x.bk.p := rfl
    have x3 : pIx x.bk.p (.int 3) = some (.tup (x.bk.es.map Edge.p)) := rfl
    obtain ⟨δ, hδ⟩ : ∃ δ : DS, [d0, d1, d2, d3, d4, .p (.lst acc), .p (.str x.name), .p (.tup [x.bk.p, .tup (x.below.map P.str)]), .und] = δ := ⟨_, rfl⟩
    have c : sLc (sIt (sOp pIx (sOp pIx (sName 7) (sC (.int 0))) (sC (.int 3)))) (gN 8) sYes (sTup (sCons (sName 6) (sCons (sName 8) sNil))) [8] [d0, d1, d2, d3, d4, .p (.lst acc), .p (.str x.name), .p (.tup [x.bk.p, .tup (x.below.map P.str)]), .und] m = .ok (.p (.lst (x.bk.es.map (row x.name)))) m := by
      rw [e_Lc, sit_tup _ (xs := x.bk.es.map Edge.p) (m' := m) (by simp [x0, x3])]
      have mk := mkL_ok (xs := x.bk.es.map (row x.name)) (m := m) (by simp; omega)
      show (compL _ _ _ _ _ _ _).bindN mkL = _
      rw [← mk]
      refine Eq.trans (congrArg (fun z => ER.bindN z mkL) (a₂ := ER.ok (x.bk.es.map (row x.name)) m) ?_) rfl
      refine (compL_pure (fun _ => true) (fun e => .tup [.str x.name, e]) ?_).trans ?_
      · intro e he
        exact ⟨[d0, d1, d2, d3, d4, .p (.lst acc), .p (.str x.name), .p (.tup [x.bk.p, .tup (x.below.map P.str)]), .p e], by simp, by simp, fun _ => by simp⟩
      · rw [List.filter_eq_self.mpr (by simp), List.map_map]
        rfl
    have pa : pAdd (.lst acc) (.lst (x.bk.es.map (row x.name))) = some (.lst (acc ++ x.bk.es.map (row x.name))) := by
      unfold pAdd
      simp
      omega
    have er : acc ++ rowsOf (x :: hs) = acc ++ x.bk.es.map (row x.name) ++ rowsOf hs := by simp [rowsOf]
    rw [er, ← e, List.map_cons, forL]
    obtain ⟨ed, hed⟩ : ∃ ed, x.bk.es.map (row x.name) = ed := ⟨_, rfl⟩
    rw [hed] at c pa ⊢
    simp [-e_Lc, Rm.p, c, pa]
end DL

set_option Elab.async false
set_option linter.all false
set_option maxRecDepth 100000
set_option maxHeartbeats 4000000
/-! Plain part r: the law answers yes. -/
noncomputable section
namespace DL
open PySem PySem.Spec PyProof.Rows L2
abbrev lT : FS := (sSeq (sPar2 (sCons (sFn s__law_house (sCons (sName 1) (sCons (sC (.int 3)) (sCons (sC (.int 6)) (sCons (sC (.int 8)) sNil))))) (sCons (sLst sNil) sNil)) 4 5)
    (sSeq (sFor (sIt (sName 4)) lG lB)
    (sSeq (sAsgN (sLst (sCons (sCall gTuple (sCons (sLc (sIt (sName 4)) (gT 2 (gsC (gN 6) (gsC (gN 7) gsN))) sYes (sName 6) [6, 7]) sNil)) (sCons (sCall gTuple (sCons (sCallL gSorted (sCons (sName 5) sNil)) sNil)) sNil))) 3)
    (sIfS (sNotB (sB (sFn s__law_like (sCons (sLst (sCons (sFn s_names_of (sCons (sName 4) sNil)) (sCons (sFn s_edges_of (sCons (sName 4) sNil)) sNil))) (sCons (sName 3) sNil))))) (sRet (sC (.bl false))) sNx))))
theorem turn_ok {n : Nat} {t : Rnd} (h : t.Ok (n + 5 + 64 * 4)) (d0 d2 d3 d4 d5 d6 d7 : D) :
    ∃ (e3 e4 e5 e6 e7 : D) (t' : Rnd), lT [d0, .ref 0, d2, d3, d4, d5, d6, d7, .und] [t.mo] = .nx [d0, .ref 0, d2, e3, e4, e5, e6, e7, .und] [t'.mo] ∧ t'.Ok n := by
  obtain ⟨hs, t', e1, ho, ok⟩ := house_ok h []
  have l2 := ho.l2
  obtain ⟨e6, e7, e2⟩ := rows_loop d0 (.ref 0) d2 d3 (.p (.tup (hs.map Rm.p))) [t'.mo] hs [] d6 d7 (fun x hx => (ho.ok x hx).few) (by simp; omega)
  rw [List.nil_append] at e2
  have c2 : sLc (sIt (sName 4)) (gT 2 (gsC (gN 6) (gsC (gN 7) gsN))) sYes (sName 6) [6, 7] [d0, .ref 0, d2, d3, .p (.tup (hs.map Rm.p)), .p (.lst (rowsOf hs)), e6, e7, .und] [t'.mo] = .ok (.p (.lst ((hs.map Rm.name).map P.str))) [t'.mo] := by
    rw [e_Lc, sit_tup (sName 4) (xs := hs.map Rm.p) (m' := [t'.mo]) (by simp)]
    have mk := mkL_ok (xs := (hs.map Rm.name).map P.str) (m := [t'.mo]) (by simp; omega)
    show (compL _ _ _ _ _ _ _).bindN mkL = _
    rw [← mk]
    refine Eq.trans (congrArg (fun z => ER.bindN z mkL) (a₂ := ER.ok ((hs.map Rm.name).map P.str) [t'.mo]) ?_) rfl
    exact names_comp (by decide) (by simp) (by simp)
  have so := rows_sorted ho
  have no := names_of_ok ho [t'.mo]
  have eo := edges_of_ok ho [t'.mo]
  have li := like_ok (due_repr ho) [t'.mo]
  unfold due at li
  have it : sIt (sName 4) [d0, .ref 0, d2, d3, .p (.tup (hs.map Rm.p)), .p (.lst []), d6, d7, .und] [t'.mo] = .ok ⟨hs.map Rm.p, fun _ => true⟩ [t'.mo] := sit_tup _ (by simp)
  refine ⟨.p (due hs), .p (.tup (hs.map Rm.p)), .p (.lst (rowsOf hs)), e6, e7, t', ?_, ok⟩
  unfold due
  simp only [lG, lB] at e2
  obtain ⟨hv, ehv⟩ : ∃ hv, P.tup (hs.map Rm.p) = hv := ⟨_, rfl⟩
  obtain ⟨nms, hnms⟩ : ∃ z, (hs.map Rm.name).map P.str = z := ⟨_, rfl⟩
  obtain ⟨rws, hrws⟩ : ∃ z, rowsOf hs = z := ⟨_, rfl⟩
  rw [ehv] at e1 e2 c2 no eo it ⊢
  rw [hnms] at c2 no li ⊢
  rw [hrws] at e2 c2 so eo li ⊢
  simp [-e_Lc, -e_It, e1, it, e2, c2, so, no, eo, li, gTuple_lst]
theorem turns {n : Nat} (d0 : D) : ∀ (xs : List P) (t : Rnd) (d2 d3 d4 d5 d6 d7 : D), t.Ok (n + 300 * xs.length) →
    ∃ (e2 e3 e4 e5 e6 e7 : D) (t' : Rnd), forL (gN 2) lT (fun _ => true) xs [d0, .ref 0, d2, d3, d4, d5, d6, d7, .und] [t.mo] = .nx [d0, .ref 0, e2, e3, e4, e5, e6, e7, .und] [t'.mo]
  | [], t, d2, d3, d4, d5, d6, d7, _ => ⟨d2, d3, d4, d5, d6, d7, t, by simp [forL]⟩
  | x :: xs, t, d2, d3, d4, d5, d6, d7, ok => by
    obtain ⟨e3, e4, e5, e6, e7, t1, e, ok1⟩ := turn_ok (n := n + 300 * xs.length) (t := t) (ok.le (by rw [List.length_cons]; omega)) d0 (.p x) d3 d4 d5 d6 d7
    obtain ⟨f2, f3, f4, f5, f6, f7, t', e'⟩ := turns (n := n) d0 xs t1 (.p x) e3 e4 e5 e6 e7 ok1
    refine ⟨f2, f3, f4, f5, f6, f7, t', ?_⟩
    have g : gN 2 (.p x) [d0, .ref 0, d2, d3, d4, d5, d6, d7, .und] = some [d0, .ref 0, .p x, d3, d4, d5, d6, d7, .und] := rfl
    rw [forL, if_pos rfl, g]
    dsimp only
    rw [e]
    exact e'
theorem hand_ok : HouseOk [⟨"a", ⟨1, [], [], []⟩, []⟩] := by
  refine ⟨by simp, by decide +kernel, by simp, by simp, fun x hx => ?_⟩
  have : x = ⟨"a", ⟨1, [], [], []⟩, []⟩ := by simpa using hx
  subst this
  exact ⟨⟨by show (1 : Int) ≤ 1; omega, by show (1 : Int) ≤ 6; omega, .nil, fun i h => (nomatch h), .nil, fun i h => (nomatch h), .nil, fun i h => (nomatch h)⟩, by show 0 ≤ 14; omega, List.nil_sublist _⟩
theorem law_ok (ns : List Int) (h : ns.length ≤ 63) : s_law [.p (.lst (ns.map P.int))] [] = .ok (.p (.bl true)) [] := by
  obtain ⟨t, e1, ok⟩ := begun_ok ns h
  obtain ⟨f2, f3, f4, f5, f6, f7, t', e2⟩ := turns (n := 0) (.p (.lst (ns.map P.int))) ((numsTo 4).map P.int) t .und .und .und .und .und .und (ok.le (by decide))
  have i1 : sIt1 (sCons (sC (.int 4)) sNil) [.p (.lst (ns.map P.int)), .ref 0, .und, .und, .und, .und, .und, .und, .und] [t.mo] = .ok ⟨(numsTo 4).map P.int, fun _ => true⟩ [t.mo] := it1_nat (x := 4) (by simp) (by decide) (by decide)
  have eo : s_edges_of [.p (.tup [.tup [.str "a", .tup [.tup [.int 1, .tup [], .tup [], .tup []], .tup []]]])] [t'.mo] = .ok (.p (.tup [])) [t'.mo] := edges_of_ok hand_ok [t'.mo]
  have q : pEq (.tup []) (.tup []) = some (.bl true) := by decide +kernel
  unfold s_law b_law
  simp only [lT, lG, lB] at e2
  simp [-e_It1, n_law, List.replicate_succ, e1, i1, e2, eo, q]
end DL

set_option Elab.async false
set_option linter.all false
set_option maxRecDepth 100000
set_option maxHeartbeats 0
namespace DL
open PySem PySem.Spec PyProof.Rows L2
theorem facts {P : Program} {w : World} {K : PySem.W.Frag} {h : Heap} {mg : Str → Option Value} {f : Addr} (X : K.In h) (G : h.Ns mainGlobals mg) (hfa : mg ("law" : Str) = some (.ref f)) (c : He.SaysD fa fn K) (ce : ex K = true) :
    ∃ fd : FuncData, (∀ (s : Shared) (u : Value), BindsTo s fd ⟨[u], []⟩ [("_law_script", u)]) ∧ ∀ base : Heap, K.In base → base.Ns mainGlobals mg → FnG P w K mg base 8 f fd ["_law_script"] s_law := by
  obtain ⟨fd, F⟩ := c.def_ 25 (d := ⟨("law", none), "law", "law", defArgs (top 46), defBody (top 46), defScope (top 46), [], []⟩) rfl
  have e := hfa.symm.trans (He.glo_ok X G (c.fact 48 (f := .glo "law") rfl))
  cases e
  have b := FunD.bindsA (ps := ["_law_script"]) F fun _ _ _ _ _ _ us hl => match us, hl with | [_], _ => rfl
  exact ⟨fd, fun s v => b s [v] rfl, fun base _ _ => g_law (zf_of X G c ce) F⟩
end DL
open PySem PySem.W PySem.Calls PyProof.Rows
theorem PySem.Challenge.cw_wakebook_k02_names_and_edges_of_houses_holds : PySem.Challenge.rw_wakebook_k02_names_and_edges_of_houses.Holds := by
  w_on; o_law
  refine HandSHeadRun.head_any (r := OpenLaw.row DL.lawR) (q := view (OpenLaw.row DL.lawR).prog [46]) (H := DL.hk) (ob := DL.ob) (M := 4000) (loose := DL.looseN) (d := HandSHeadRun.topDef (OpenLaw.row DL.lawR).prog 46) (kwd := []) DL.ob_eq
    (by kernel_rfl) (fun s => by kernel_rfl) DL.runs (by kernel_rfl) (by kernel_rfl) (by kernel_rfl) (by rfl) (by first | assumption | decide +kernel) (by decide +kernel) ⟨rfl, rfl, rfl, rfl, rfl, by decide +kernel⟩ ?hw ?hc
  case hw => w_witness2
  case hc =>
    refine DL.walk_ofG (l := DL.lawR) (n := 63) (k := 8) (x := "_law_script") (S := DL.s_law) rfl (by decide) (by kernel_rfl) ⟨rfl, by decide, by decide⟩ ?F (fun ns h => DL.law_ok ns h)
    intro w mg fa h Y G hmg0
    obtain ⟨K, KX, c⟩ := Y
    have hmg : mg ("law" : PySem.Str) = some (.ref fa) := by
      have e : (HandSHeadRun.topDef (OpenLaw.row DL.lawR).prog 46).name = ("law" : PySem.Str) := by kernel_rfl
      rw [← e]
      exact hmg0
    obtain ⟨fd, hb, hF⟩ := DL.facts (P := DL.lawR.prog) (w := w) KX G hmg c.1 c.2
    have hn : DL.noLists K = true := by
      have z := c.2
      unfold DL.ex at z
      simp only [Bool.and_eq_true] at z
      exact z.1.1
    exact ⟨K, fd, KX, hn, hb, hF⟩
