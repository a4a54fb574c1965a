import PyProof.Rows.All
import Wide.All
import OpenK.AllK
import Wide.FinOn
import HandS.ForMost
import HandS.Exc
import HandS.ExcOwn
import HandS.WordsExc
import HandS.Star
import HandS.IsInst
import HandS.Wide
import HandS.NoneIn
import HandS.Deep
import HandS.Zip
import HandS.WordsDict
import HandS.Defaults
import KE.KStar
import HandS.Style
import HandS.Words
import HandS.Ends
import HandS.Head0
import HandS.Head1
import HandS.Head2
import HandS.HeadEnd
import HandS.HeadWalk
import HandS.HeadHook1
import HandS.HeadHook2
import PySem.Challenge.RW_keptlaws_k02_names_and_numbers
set_option Elab.async false
set_option linter.all false
set_option maxRecDepth 100000
set_option maxHeartbeats 0
/-! Dn, part A: plain data, the store, results. -/
namespace Dn
open PySem L2

/-- pure data: no object of it is ever changed; dct true: a dict whose keys are tuples; ktp: a tuple of the module's top; scr: the law's script -/
inductive P where
  | non | bl (b : Bool) | int (i : Int) | str (s : Str)
  | tup (l : List P) | lst (l : List P) | dct (t : Bool) (l : List (P × P)) | ins (c : Nat) (l : List (Nat × P)) | ktp (l : List P) | scr (l : List Int)
/-- a value: pure data, or an object of the store -/
inductive D where | p (x : P) | ref (n : Nat)
/-- an object of the store; scr: the law's script -/
inductive MO where | lst (l : List D) | dct (l : List (P × D)) | dcT (l : List (P × D)) | ins (c : Nat) (l : List (Nat × D)) | scr (l : List Int)
abbrev Mem := List (Option MO)
/-- a raised exception: its class, its fields -/
structure Ex where (c : Nat) (l : List (Nat × P))
inductive R (α : Type) where | ok (a : α) (m : Mem) | ex (x : Ex) (m : Mem) | no
def R.bind {α β : Type} (r : R α) (f : α → Mem → R β) : R β := match r with | .ok a m => f a m | .ex x m => .ex x m | .no => .no
@[simp] theorem R.bind_ok {α β : Type} (a : α) (m : Mem) (f : α → Mem → R β) : (R.ok a m).bind f = f a m := Eq.trans rfl rfl
@[simp] theorem R.bind_ex {α β : Type} (x : Ex) (m : Mem) (f : α → Mem → R β) : (R.ex x m : R α).bind f = .ex x m := Eq.trans rfl rfl
@[simp] theorem R.bind_no {α β : Type} (f : α → Mem → R β) : (R.no : R α).bind f = .no := Eq.trans rfl rfl

def Mem.get (m : Mem) (n : Nat) : Option MO := (m[n]?).join
def Mem.new (m : Mem) (o : MO) : Mem := m ++ [some o]
def Mem.put (m : Mem) (n : Nat) (o : MO) : Mem := m.set n (some o)
def Mem.kill (m : Mem) (n : Nat) : Mem := m.set n none

def keyP : P → Option Key
  | .int i => some (.inl i)
  | .str s => some (.inr s)
  | _ => none
def keysP : List P → Option (List Key)
  | [] => some []
  | x :: l => match keyP x, keysP l with
    | some k, some ks => some (k :: ks)
    | _, _ => none
def keyT : P → Option (List Key)
  | .tup l => keysP l
  | _ => none

/-- where the classes stand, what the attributes are called, which classes there are -/
structure Gn where
  K : PySem.W.Frag
  cA : Nat → Addr
  fN : Nat → Str
  cs : Nat → Bool

mutual
inductive RP (g : Gn) (H : Hp) : P → V → Prop
  | non : RP g H .non .non
  | bl (b : Bool) : RP g H (.bl b) (.bl b)
  | int (i : Int) : RP g H (.int i) (.int i)
  | str (s : Str) : RP g H (.str s) (.str s)
  | tup {a : Addr} {vs : List V} {l : List P} : H a = some (.tup vs) → RPs g H l vs → RP g H (.tup l) (.ref a)
  | lst {a : Addr} {vs : List V} {l : List P} : H a = some (.lst vs) → RPs g H l vs → RP g H (.lst l) (.ref a)
  | dK {a : Addr} {kvs : List (Key × V)} {l : List (P × P)} : Rd H a (.dK kvs) → RPk g H l kvs → RP g H (.dct false l) (.ref a)
  | dT {a : Addr} {kvs : List (List Key × V)} {l : List (P × P)} : Rd H a (.dT kvs) → RPt g H l kvs → RP g H (.dct true l) (.ref a)
  | ins {a dx : Addr} {fs : List (Str × V)} {c : Nat} {l : List (Nat × P)} : g.cs c = true → H a = some (.ins (g.cA c) dx fs) → RPf g H l fs → RP g H (.ins c l) (.ref a)
  | ktp {a : Addr} {vs : List V} {l : List P} : (∀ H', SqT g.K H' a vs) → RPs g H l vs → RP g H (.ktp l) (.ref a)
  | scr {a : Addr} {l : List Int} : SqL g.K H a (l.map V.int) → RP g H (.scr l) (.ref a)
inductive RPs (g : Gn) (H : Hp) : List P → List V → Prop
  | nil : RPs g H [] []
  | cons {x : P} {v : V} {l : List P} {vs : List V} : RP g H x v → RPs g H l vs → RPs g H (x :: l) (v :: vs)
inductive RPk (g : Gn) (H : Hp) : List (P × P) → List (Key × V) → Prop
  | nil : RPk g H [] []
  | cons {k x : P} {κ : Key} {v : V} {l : List (P × P)} {vs : List (Key × V)} : keyP k = some κ → RP g H x v → RPk g H l vs → RPk g H ((k, x) :: l) ((κ, v) :: vs)
inductive RPt (g : Gn) (H : Hp) : List (P × P) → List (List Key × V) → Prop
  | nil : RPt g H [] []
  | cons {k x : P} {κ : List Key} {v : V} {l : List (P × P)} {vs : List (List Key × V)} : keyT k = some κ → RP g H x v → RPt g H l vs → RPt g H ((k, x) :: l) ((κ, v) :: vs)
inductive RPf (g : Gn) (H : Hp) : List (Nat × P) → List (Str × V) → Prop
  | nil : RPf g H [] []
  | cons {n : Nat} {x : P} {v : V} {l : List (Nat × P)} {vs : List (Str × V)} : RP g H x v → RPf g H l vs → RPf g H ((n, x) :: l) ((g.fN n, v) :: vs)
end

/-- known of F, it stands in H too (a dict may be locked) -/
def Sub (F H : Hp) : Prop := ∀ a o, F a = some o → H a = some o ∨ (((∃ k, o = .dK k) ∨ ∃ k, o = .dT k) ∧ ∃ od, H a = some (.frz od o))
theorem Sub.of {F H : Hp} (h : ∀ a o, F a = some o → H a = some o) : Sub F H := fun a o e => .inl (h a o e)
theorem Sub.rd {F H : Hp} (s : Sub F H) {a : Addr} {u : HO} (hu : (∃ k, u = .dK k) ∨ ∃ k, u = .dT k) (h : Rd F a u) : Rd H a u := by
  rcases h with h | ⟨o, h⟩
  · rcases s a u h with h | ⟨_, od, h⟩
    · exact .inl h
    · exact .inr ⟨od, h⟩
  · rcases s a _ h with h | ⟨z, _⟩
    · exact .inr ⟨o, h⟩
    · rcases z with ⟨k, z⟩ | ⟨k, z⟩ <;> cases z
theorem Sub.tup {F H : Hp} (s : Sub F H) {a : Addr} {xs : List V} (h : F a = some (.tup xs)) : H a = some (.tup xs) := by
  rcases s a _ h with h | ⟨z, _⟩
  · exact h
  · rcases z with ⟨k, z⟩ | ⟨k, z⟩ <;> cases z
theorem Sub.lst {F H : Hp} (s : Sub F H) {a : Addr} {xs : List V} (h : F a = some (.lst xs)) : H a = some (.lst xs) := by
  rcases s a _ h with h | ⟨z, _⟩
  · exact h
  · rcases z with ⟨k, z⟩ | ⟨k, z⟩ <;> cases z
theorem Sub.seq {K : PySem.W.Frag} {F H : Hp} (s : Sub F H) {a : Addr} {xs : List V} (h : SqL K F a xs) : SqL K H a xs := by
  rcases h with h | h
  · rcases h with h | ⟨o, h⟩
    · exact .inl (.inl (s.lst h))
    · rcases s a _ h with h | ⟨z, _⟩
      · exact .inl (.inr ⟨o, h⟩)
      · rcases z with ⟨k, z⟩ | ⟨k, z⟩ <;> cases z
  · exact .inr h
theorem Sub.ins {F H : Hp} (s : Sub F H) {a C dx : Addr} {fs : List (Str × V)} (h : F a = some (.ins C dx fs)) : H a = some (.ins C dx fs) := by
  rcases s a _ h with h | ⟨z, _⟩
  · exact h
  · rcases z with ⟨k, z⟩ | ⟨k, z⟩ <;> cases z

section
variable {g : Gn} {F H : Hp}
mutual
theorem RP.up (s : Sub F H) {x : P} {v : V} : RP g F x v → RP g H x v
  | .non => .non
  | .bl b => .bl b
  | .int i => .int i
  | .str z => .str z
  | .tup h t => .tup (s.tup h) (RPs.up s t)
  | .lst h t => .lst (s.lst h) (RPs.up s t)
  | .dK h t => .dK (s.rd (.inl ⟨_, rfl⟩) h) (RPk.up s t)
  | .dT h t => .dT (s.rd (.inr ⟨_, rfl⟩) h) (RPt.up s t)
  | .ins z h t => .ins z (s.ins h) (RPf.up s t)
  | .ktp h t => .ktp h (RPs.up s t)
  | .scr h => .scr (s.seq h)
theorem RPs.up (s : Sub F H) {l : List P} {vs : List V} : RPs g F l vs → RPs g H l vs
  | .nil => .nil
  | .cons h t => .cons (RP.up s h) (RPs.up s t)
theorem RPk.up (s : Sub F H) {l : List (P × P)} {vs : List (Key × V)} : RPk g F l vs → RPk g H l vs
  | .nil => .nil
  | .cons e h t => .cons e (RP.up s h) (RPk.up s t)
theorem RPt.up (s : Sub F H) {l : List (P × P)} {vs : List (List Key × V)} : RPt g F l vs → RPt g H l vs
  | .nil => .nil
  | .cons e h t => .cons e (RP.up s h) (RPt.up s t)
theorem RPf.up (s : Sub F H) {l : List (Nat × P)} {vs : List (Str × V)} : RPf g F l vs → RPf g H l vs
  | .nil => .nil
  | .cons h t => .cons (RP.up s h) (RPf.up s t)
end
end

mutual
def P.py : P → PyData
  | .non => .none
  | .bl b => .bool b
  | .int i => .int i
  | .str s => .str s
  | .tup l => .tuple (pyL l)
  | .lst l => .list (pyL l)
  | .dct _ _ => .dict []
  | .ins _ _ => .dict []
  | .ktp _ => .dict []
  | .scr _ => .dict []
def pyL : List P → List PyData
  | [] => []
  | x :: l => x.py :: pyL l
end
mutual
/-- data that == compares by itself -/
def P.dat : P → Bool
  | .non => true
  | .bl _ => true
  | .int _ => true
  | .str _ => true
  | .tup l => datL l
  | .lst l => datL l
  | .dct _ _ => false
  | .ins _ _ => false
  | .ktp _ => false
  | .scr _ => false
def datL : List P → Bool
  | [] => true
  | x :: l => x.dat && datL l
end
end Dn

/-! Dn, part B: the store as it lies in the heap; a step. -/
namespace Dn
open PySem L2

abbrev Rho := Nat → Addr
/-- m has n -/
def Live (m : Mem) (n : Nat) : Prop := ∃ o, m[n]? = some (some o)

def RD (g : Gn) (ρ : Rho) (F : Hp) (k : Nat) : D → V → Prop
  | .p x, v => RP g F x v
  | .ref n, v => n < k ∧ v = .ref (ρ n)
def RDs (g : Gn) (ρ : Rho) (F : Hp) (k : Nat) : List D → List V → Prop
  | [], [] => True
  | d :: l, v :: vs => RD g ρ F k d v ∧ RDs g ρ F k l vs
  | _, _ => False
def RDk (g : Gn) (ρ : Rho) (F : Hp) (k : Nat) : List (P × D) → List (Key × V) → Prop
  | [], [] => True
  | d :: l, v :: vs => (keyP d.1 = some v.1 ∧ RD g ρ F k d.2 v.2) ∧ RDk g ρ F k l vs
  | _, _ => False
def RDt (g : Gn) (ρ : Rho) (F : Hp) (k : Nat) : List (P × D) → List (List Key × V) → Prop
  | [], [] => True
  | d :: l, v :: vs => (keyT d.1 = some v.1 ∧ RD g ρ F k d.2 v.2) ∧ RDt g ρ F k l vs
  | _, _ => False
def RDf (g : Gn) (ρ : Rho) (F : Hp) (k : Nat) : List (Nat × D) → List (Str × V) → Prop
  | [], [] => True
  | d :: l, v :: vs => (v.1 = g.fN d.1 ∧ RD g ρ F k d.2 v.2) ∧ RDf g ρ F k l vs
  | _, _ => False
def RMO (g : Gn) (ρ : Rho) (F : Hp) (k : Nat) : MO → HO → Prop
  | .lst l, .lst vs => RDs g ρ F k l vs
  | .dct l, .dK vs => RDk g ρ F k l vs
  | .dcT l, .dT vs => RDt g ρ F k l vs
  | .ins c l, .ins C _ fs => (C = g.cA c ∧ g.cs c = true) ∧ RDf g ρ F k l fs
  | .scr ns, .frz _ (.lst vs) => vs = ns.map V.int
  | _, _ => False
structure MRel (g : Gn) (ρ : Rho) (F : Hp) (m : Mem) (H : Hp) : Prop where
  sub : Sub F H
  mem : ∀ (n : Nat) (o : MO), m[n]? = some (some o) → F (ρ n) = none ∧ ∃ ho, H (ρ n) = some ho ∧ RMO g ρ F m.length o ho
  inj : ∀ n n', Live m n → Live m n' → ρ n = ρ n' → n = n'
/-- from (ρ, F, m, H) on to (ρ', F', m', H') -/
structure Ext (ρ : Rho) (F : Hp) (m : Mem) (H : Hp) (ρ' : Rho) (F' : Hp) (m' : Mem) (H' : Hp) : Prop where
  sub : ∀ a o, F a = some o → F' a = some o
  len : m.length ≤ m'.length
  agr : ∀ n, n < m.length → ρ' n = ρ n
  dead : ∀ n : Nat, m[n]? = some none → m'[n]? = some none
  fresh : ∀ n, m.length ≤ n → Live m' n → H (ρ' n) = none
  frame : ∀ a o, H a = some o → (∀ n, Live m n → ρ n ≠ a) → H' a = some o
  there : ∀ a o, H a = some o → ∃ o', H' a = some o'
  new : ∀ a o, F' a = some o → F a = some o ∨ H a = none ∨ ∃ n, Live m n ∧ ρ n = a

section
variable {g : Gn} {ρ ρ1 ρ2 : Rho} {F F1 F2 : Hp} {m m1 m2 : Mem} {H H1 H2 : Hp}
theorem Live.lt {n : Nat} (h : Live m n) : n < m.length := by
  obtain ⟨o, e⟩ := h
  exact (List.getElem?_eq_some_iff.mp e).1
theorem Ext.refl : Ext ρ F m H ρ F m H :=
  ⟨fun _ _ h => h, Nat.le_refl _, fun _ _ => rfl, fun _ h => h, fun n h l => absurd l.lt (Nat.not_lt.mpr h), fun _ _ h _ => h, fun _ o h => ⟨o, h⟩, fun _ _ h => .inl h⟩
theorem Ext.live (a : Ext ρ F m H ρ1 F1 m1 H1) {n : Nat} (hn : n < m.length) (l : Live m1 n) : Live m n := by
  cases e : m[n]? with
  | none => exact absurd (List.getElem?_eq_none_iff.mp e) (Nat.not_le.mpr hn)
  | some o =>
    cases o with
    | some o => exact ⟨o, e⟩
    | none =>
      obtain ⟨o, e'⟩ := l
      rw [a.dead n e] at e'
      cases e'
theorem Ext.trans (a : Ext ρ F m H ρ1 F1 m1 H1) (b : Ext ρ1 F1 m1 H1 ρ2 F2 m2 H2) : Ext ρ F m H ρ2 F2 m2 H2 where
  sub := fun x o h => b.sub x o (a.sub x o h)
  len := Nat.le_trans a.len b.len
  agr := fun n h => (b.agr n (Nat.lt_of_lt_of_le h a.len)).trans (a.agr n h)
  dead := fun n h => b.dead n (a.dead n h)
  fresh := fun n h l => by
    by_cases hn : n < m1.length
    · rw [b.agr n hn]
      exact a.fresh n h (b.live hn l)
    · cases e : H (ρ2 n) with
      | none => rfl
      | some o =>
        obtain ⟨o', e'⟩ := a.there _ _ e
        rw [b.fresh n (Nat.not_lt.mp hn) l] at e'
        cases e'
  frame := fun x o h hl => b.frame x o (a.frame x o h hl) fun n l e => by
    by_cases hn : n < m.length
    · exact hl n (a.live hn l) (by rw [← a.agr n hn]; exact e)
    · have := a.fresh n (Nat.not_lt.mp hn) l
      rw [e, h] at this
      cases this
  there := fun x o h => by
    obtain ⟨o1, e1⟩ := a.there x o h
    exact b.there x o1 e1
  new := fun x o h => by
    rcases b.new x o h with h | h | ⟨n, l, e⟩
    · exact a.new x o h
    · refine .inr (.inl ?_)
      cases e : H x with
      | none => rfl
      | some o =>
        obtain ⟨o', e'⟩ := a.there _ _ e
        rw [h] at e'
        cases e'
    · by_cases hn : n < m.length
      · exact .inr (.inr ⟨n, a.live hn l, by rw [← a.agr n hn]; exact e⟩)
      · refine .inr (.inl ?_)
        rw [← e]
        exact a.fresh n (Nat.not_lt.mp hn) l
theorem Ext.Sub (a : Ext ρ F m H ρ1 F1 m1 H1) : Sub F F1 := Sub.of a.sub
theorem RD.mono (a : Ext ρ F m H ρ1 F1 m1 H1) {d : D} {v : V} (h : RD g ρ F m.length d v) : RD g ρ1 F1 m1.length d v := by
  cases d with
  | p x => exact RP.up a.Sub h
  | ref n => exact ⟨Nat.lt_of_lt_of_le h.1 a.len, by rw [a.agr n h.1]; exact h.2⟩
theorem RDs.mono (a : Ext ρ F m H ρ1 F1 m1 H1) : ∀ {l : List D} {vs : List V}, RDs g ρ F m.length l vs → RDs g ρ1 F1 m1.length l vs
  | [], [], _ => trivial
  | _ :: _, _ :: _, h => ⟨RD.mono a h.1, RDs.mono a h.2⟩
  | [], _ :: _, h => h.elim
  | _ :: _, [], h => h.elim
theorem RDk.mono (a : Ext ρ F m H ρ1 F1 m1 H1) : ∀ {l : List (P × D)} {vs : List (Key × V)}, RDk g ρ F m.length l vs → RDk g ρ1 F1 m1.length l vs
  | [], [], _ => trivial
  | _ :: _, _ :: _, h => ⟨⟨h.1.1, RD.mono a h.1.2⟩, RDk.mono a h.2⟩
  | [], _ :: _, h => h.elim
  | _ :: _, [], h => h.elim
theorem RDt.mono (a : Ext ρ F m H ρ1 F1 m1 H1) : ∀ {l : List (P × D)} {vs : List (List Key × V)}, RDt g ρ F m.length l vs → RDt g ρ1 F1 m1.length l vs
  | [], [], _ => trivial
  | _ :: _, _ :: _, h => ⟨⟨h.1.1, RD.mono a h.1.2⟩, RDt.mono a h.2⟩
  | [], _ :: _, h => h.elim
  | _ :: _, [], h => h.elim
theorem RDf.mono (a : Ext ρ F m H ρ1 F1 m1 H1) : ∀ {l : List (Nat × D)} {vs : List (Str × V)}, RDf g ρ F m.length l vs → RDf g ρ1 F1 m1.length l vs
  | [], [], _ => trivial
  | _ :: _, _ :: _, h => ⟨⟨h.1.1, RD.mono a h.1.2⟩, RDf.mono a h.2⟩
  | [], _ :: _, h => h.elim
  | _ :: _, [], h => h.elim
theorem RMO.mono (a : Ext ρ F m H ρ1 F1 m1 H1) {o : MO} {ho : HO} (h : RMO g ρ F m.length o ho) : RMO g ρ1 F1 m1.length o ho := by
  cases o with
  | scr ns => cases ho with
    | frz o u => cases u <;> first | exact h | exact (show False from h).elim
    | _ => exact (show False from h).elim
  | _ => cases ho <;> first
    | exact RDs.mono a h
    | exact RDk.mono a h
    | exact RDt.mono a h
    | exact ⟨h.1, RDf.mono a h.2⟩
    | exact (show False from h).elim
theorem RDs.length : ∀ {k : Nat} {l : List D} {vs : List V}, RDs g ρ F k l vs → l.length = vs.length
  | _, [], [], _ => rfl
  | _, _ :: _, _ :: _, h => congrArg Nat.succ (RDs.length h.2)
  | _, [], _ :: _, h => h.elim
  | _, _ :: _, [], h => h.elim
theorem RDs.get {k : Nat} : ∀ {l : List D} {vs : List V} {i : Nat} {d : D}, RDs g ρ F k l vs → l[i]? = some d → ∃ v, vs[i]? = some v ∧ RD g ρ F k d v
  | [], [], _, _, _, e => by simp at e
  | _ :: _, _ :: _, 0, _, h, e => by
    simp at e
    subst e
    exact ⟨_, rfl, h.1⟩
  | _ :: _, _ :: _, i + 1, _, h, e => by
    obtain ⟨v, e1, r⟩ := RDs.get (i := i) h.2 (by simpa using e)
    exact ⟨v, by simpa using e1, r⟩
  | [], _ :: _, _, _, h, _ => h.elim
  | _ :: _, [], _, _, h, _ => h.elim
theorem RDs.append {k : Nat} : ∀ {l l2 : List D} {vs vs2 : List V}, RDs g ρ F k l vs → RDs g ρ F k l2 vs2 → RDs g ρ F k (l ++ l2) (vs ++ vs2)
  | [], _, [], _, _, h => h
  | _ :: _, _, _ :: _, _, h, t => ⟨h.1, RDs.append h.2 t⟩
  | [], _, _ :: _, _, h, _ => h.elim
  | _ :: _, _, [], _, h, _ => h.elim
theorem RDs.take {k : Nat} : ∀ {l : List D} {vs : List V} (n : Nat), RDs g ρ F k l vs → RDs g ρ F k (l.take n) (vs.take n)
  | [], [], n, _ => by simp [RDs]
  | _ :: _, _ :: _, 0, _ => by simp [RDs]
  | _ :: _, _ :: _, n + 1, h => ⟨h.1, RDs.take n h.2⟩
  | [], _ :: _, _, h => h.elim
  | _ :: _, [], _, h => h.elim
theorem RDs.drop {k : Nat} : ∀ {l : List D} {vs : List V} (n : Nat), RDs g ρ F k l vs → RDs g ρ F k (l.drop n) (vs.drop n)
  | [], [], n, _ => by simp [RDs]
  | _ :: _, _ :: _, 0, h => h
  | _ :: _, _ :: _, n + 1, h => RDs.drop n h.2
  | [], _ :: _, _, h => h.elim
  | _ :: _, [], _, h => h.elim
theorem RDs.set {k : Nat} {d : D} {v : V} (hd : RD g ρ F k d v) : ∀ {l : List D} {vs : List V} (n : Nat), RDs g ρ F k l vs → RDs g ρ F k (l.set n d) (vs.set n v)
  | [], [], n, _ => by simp [RDs]
  | _ :: _, _ :: _, 0, h => ⟨hd, h.2⟩
  | _ :: _, _ :: _, n + 1, h => ⟨h.1, RDs.set hd n h.2⟩
  | [], _ :: _, _, h => h.elim
  | _ :: _, [], _, h => h.elim
theorem RPs.ds {k : Nat} : ∀ {l : List P} {vs : List V}, RPs g F l vs → RDs g ρ F k (l.map D.p) vs
  | _, _, .nil => trivial
  | _, _, .cons h t => ⟨h, RPs.ds t⟩
theorem RPs.of {k : Nat} : ∀ {l : List P} {vs : List V}, RDs g ρ F k (l.map D.p) vs → RPs g F l vs
  | [], [], _ => .nil
  | _ :: _, _ :: _, h => .cons h.1 (RPs.of h.2)
  | [], _ :: _, h => h.elim
  | _ :: _, [], h => h.elim
theorem RPs.length : ∀ {l : List P} {vs : List V}, RPs g F l vs → l.length = vs.length
  | _, _, .nil => rfl
  | _, _, .cons _ t => congrArg Nat.succ (RPs.length t)

/-! ### steps of the store -/
/-- a new address -/
def ext1 (ρ : Rho) (n : Nat) (a : Addr) : Rho := fun k => if k = n then a else ρ k
theorem ext1_self {ρ : Rho} {n : Nat} {a : Addr} : ext1 ρ n a n = a := if_pos rfl
theorem get_new {o : MO} {n : Nat} : (m.new o)[n]? = if n < m.length then m[n]? else if n = m.length then some (some o) else none := by
  unfold Mem.new
  by_cases h : n < m.length
  · rw [if_pos h, List.getElem?_append_left h]
  · rw [if_neg h, List.getElem?_append_right (Nat.not_lt.mp h)]
    by_cases e : n = m.length
    · subst e; simp
    · rw [if_neg e]
      have : 1 ≤ n - m.length := by omega
      exact List.getElem?_eq_none this
/-- an object laid into the store -/
theorem step_new {o : MO} {ho : HO} {a : Addr} (M : MRel g ρ F m H) (ha : H a = none) (r : RMO g ρ F m.length o ho) :
    Ext ρ F m H (ext1 ρ m.length a) F (m.new o) (upd H a ho) ∧ MRel g (ext1 ρ m.length a) F (m.new o) (upd H a ho) ∧ RD g (ext1 ρ m.length a) F (m.new o).length (.ref m.length) (.ref a) := by
  have neF : F a = none := by
    cases e : F a with
    | none => rfl
    | some o => rcases M.sub a o e with h | ⟨_, _, h⟩ <;> (rw [ha] at h; cases h)
  have agr : ∀ n, n < m.length → ext1 ρ m.length a n = ρ n := fun n h => if_neg (Nat.ne_of_lt h)
  have lt : ∀ n o', m[n]? = some (some o') → n < m.length := fun n o' e => (List.getElem?_eq_some_iff.mp e).1
  have nea : ∀ n o', m[n]? = some (some o') → ρ n ≠ a := fun n o' e z => by
    obtain ⟨_, _, h, _⟩ := M.mem n o' e
    rw [z, ha] at h
    cases h
  have E : Ext ρ F m H (ext1 ρ m.length a) F (m.new o) (upd H a ho) := by
    refine ⟨fun _ _ h => h, by simp [Mem.new], agr, fun n h => ?_, fun n h l => ?_, fun b u h _ => ?_, fun b u h => ?_, fun _ _ h => .inl h⟩
    · rw [get_new, if_pos (List.getElem?_eq_some_iff.mp h).1]; exact h
    · obtain ⟨o', e⟩ := l
      rw [get_new, if_neg (Nat.not_lt.mpr h)] at e
      split at e
      · rename_i e1
        subst e1
        rw [ext1_self]; exact ha
      · cases e
    · rw [upd_ne (ne_of_none h ha)]; exact h
    · exact ⟨u, by rw [upd_ne (ne_of_none h ha)]; exact h⟩
  refine ⟨E, ⟨fun b u h => ?_, fun n o' e => ?_, fun n n' l l' e => ?_⟩, by simp [Mem.new], by rw [ext1_self]⟩
  · have : b ≠ a := fun z => by rw [z, neF] at h; cases h
    rw [upd_ne this]
    exact M.sub b u h
  · rw [get_new] at e
    split at e
    · rename_i hn
      obtain ⟨f, ho', h1, h2⟩ := M.mem n o' e
      rw [agr n hn]
      refine ⟨f, ho', ?_, RMO.mono E h2⟩
      rw [upd_ne (nea n o' e)]; exact h1
    · split at e
      · rename_i hn
        cases e
        subst hn
        rw [ext1_self]
        exact ⟨neF, ho, upd_same, RMO.mono E r⟩
      · cases e
  · obtain ⟨o1, e1⟩ := l
    obtain ⟨o2, e2⟩ := l'
    rw [get_new] at e1 e2
    split at e1
    · rename_i h1
      split at e2
      · rename_i h2
        rw [agr n h1, agr n' h2] at e
        exact M.inj n n' ⟨_, e1⟩ ⟨_, e2⟩ e
      · split at e2
        · rename_i h2
          subst h2
          rw [agr n h1] at e
          have : ext1 ρ m.length a m.length = a := if_pos rfl
          rw [this] at e
          exact absurd e (nea n _ e1)
        · cases e2
    · split at e1
      · rename_i h1
        subst h1
        split at e2
        · rename_i h2
          rw [agr n' h2] at e
          have : ext1 ρ m.length a m.length = a := if_pos rfl
          rw [this] at e
          exact absurd e.symm (nea n' _ e2)
        · split at e2
          · rename_i h2; exact h2.symm
          · cases e2
      · cases e1
theorem get_put {o : MO} {n k : Nat} (h : n < m.length) : (m.put n o)[k]? = if k = n then some (some o) else m[k]? := by
  unfold Mem.put
  by_cases e : k = n
  · subst e; rw [if_pos rfl, List.getElem?_set_self h]
  · rw [if_neg e, List.getElem?_set_ne (Ne.symm e)]
theorem get_kill {n k : Nat} (h : n < m.length) : (m.kill n)[k]? = if k = n then some none else m[k]? := by
  unfold Mem.kill
  by_cases e : k = n
  · subst e; rw [if_pos rfl, List.getElem?_set_self h]
  · rw [if_neg e, List.getElem?_set_ne (Ne.symm e)]
/-- an object of the store changed -/
theorem step_put {o o' : MO} {ho : HO} {n : Nat} (M : MRel g ρ F m H) (hn : m[n]? = some (some o)) (r : RMO g ρ F m.length o' ho) :
    Ext ρ F m H ρ F (m.put n o') (upd H (ρ n) ho) ∧ MRel g ρ F (m.put n o') (upd H (ρ n) ho) := by
  have lt : n < m.length := (List.getElem?_eq_some_iff.mp hn).1
  have len : (m.put n o').length = m.length := by simp [Mem.put]
  obtain ⟨fn, h0, hh, _⟩ := M.mem n o hn
  have E : Ext ρ F m H ρ F (m.put n o') (upd H (ρ n) ho) := by
    refine ⟨fun _ _ h => h, Nat.le_of_eq len.symm, fun _ _ => rfl, fun k h => ?_, fun k h l => ?_, fun b u h hl => ?_, fun b u h => ?_, fun _ _ h => .inl h⟩
    · rw [get_put lt, if_neg]
      · exact h
      · rintro rfl; rw [hn] at h; cases h
    · exact absurd l.lt (by rw [len]; exact Nat.not_lt.mpr h)
    · rw [upd_ne (fun z => hl n ⟨o, hn⟩ z.symm)]; exact h
    · by_cases z : b = ρ n
      · subst z; exact ⟨ho, upd_same⟩
      · exact ⟨u, by rw [upd_ne z]; exact h⟩
  refine ⟨E, ⟨fun b u h => ?_, fun k u e => ?_, fun k k' l l' e => ?_⟩⟩
  · have : b ≠ ρ n := fun z => by rw [z, fn] at h; cases h
    rw [upd_ne this]
    exact M.sub b u h
  · rw [get_put lt] at e
    split at e
    · rename_i z
      cases e
      subst z
      exact ⟨fn, ho, upd_same, by rw [len]; exact r⟩
    · rename_i z
      obtain ⟨f, ho', h1, h2⟩ := M.mem k u e
      refine ⟨f, ho', ?_, by rw [len]; exact h2⟩
      rw [upd_ne (fun q => z (M.inj k n ⟨u, e⟩ ⟨o, hn⟩ q))]; exact h1
  · have up : ∀ k, Live (m.put n o') k → Live m k := fun k ⟨u, e⟩ => by
      rw [get_put lt] at e
      split at e
      · rename_i z; subst z; exact ⟨o, hn⟩
      · exact ⟨u, e⟩
    exact M.inj k k' (up k l) (up k' l') e
/-- pure data laid -/
theorem step_pure {ho : HO} {a : Addr} (M : MRel g ρ F m H) (ha : H a = none) : Ext ρ F m H ρ (upd F a ho) m (upd H a ho) ∧ MRel g ρ (upd F a ho) m (upd H a ho) := by
  have neF : F a = none := by
    cases e : F a with
    | none => rfl
    | some o => rcases M.sub a o e with h | ⟨_, _, h⟩ <;> (rw [ha] at h; cases h)
  have E : Ext ρ F m H ρ (upd F a ho) m (upd H a ho) := by
    refine ⟨fun b u h => ?_, Nat.le_refl _, fun _ _ => rfl, fun _ h => h, fun k h l => absurd l.lt (Nat.not_lt.mpr h), fun b u h _ => ?_, fun b u h => ?_, fun b u h => ?_⟩
    · rw [upd_ne (ne_of_none h neF)]; exact h
    · rw [upd_ne (ne_of_none h ha)]; exact h
    · exact ⟨u, by rw [upd_ne (ne_of_none h ha)]; exact h⟩
    · by_cases z : b = a
      · subst z; exact .inr (.inl ha)
      · rw [upd_ne z] at h; exact .inl h
  refine ⟨E, ⟨fun b u h => ?_, fun k u e => ?_, M.inj⟩⟩
  · by_cases z : b = a
    · subst z
      rw [upd_same] at h
      exact .inl (by rw [upd_same]; exact h)
    · rw [upd_ne z] at h ⊢
      exact M.sub b u h
  · obtain ⟨f, ho', h1, h2⟩ := M.mem k u e
    have : ρ k ≠ a := fun z => by rw [z, ha] at h1; cases h1
    exact ⟨by rw [upd_ne this]; exact f, ho', by rw [upd_ne this]; exact h1, RMO.mono E h2⟩
/-- an object of the store becomes pure -/
theorem step_frz {o : MO} {ho : HO} {n : Nat} (M : MRel g ρ F m H) (hn : m[n]? = some (some o)) (hh : H (ρ n) = some ho) : Ext ρ F m H ρ (upd F (ρ n) ho) (m.kill n) H ∧ MRel g ρ (upd F (ρ n) ho) (m.kill n) H := by
  have lt : n < m.length := (List.getElem?_eq_some_iff.mp hn).1
  have len : (m.kill n).length = m.length := by simp [Mem.kill]
  obtain ⟨fn, _⟩ := M.mem n o hn
  have E : Ext ρ F m H ρ (upd F (ρ n) ho) (m.kill n) H := by
    refine ⟨fun b u h => ?_, Nat.le_of_eq len.symm, fun _ _ => rfl, fun k h => ?_, fun k h l => absurd l.lt (by rw [len]; exact Nat.not_lt.mpr h), fun b u h _ => h, fun b u h => ⟨u, h⟩, fun b u h => ?_⟩
    · rw [upd_ne (ne_of_none h fn)]; exact h
    · rw [get_kill lt]
      split
      · rfl
      · exact h
    · by_cases z : b = ρ n
      · subst z; exact .inr (.inr ⟨n, ⟨o, hn⟩, rfl⟩)
      · rw [upd_ne z] at h; exact .inl h
  refine ⟨E, ⟨fun b u h => ?_, fun k u e => ?_, fun k k' l l' e => ?_⟩⟩
  · by_cases z : b = ρ n
    · subst z
      rw [upd_same] at h
      cases h
      exact .inl hh
    · rw [upd_ne z] at h
      exact M.sub b u h
  · rw [get_kill lt] at e
    split at e
    · cases e
    · rename_i z
      obtain ⟨f, ho', h1, h2⟩ := M.mem k u e
      have : ρ k ≠ ρ n := fun q => z (M.inj k n ⟨u, e⟩ ⟨o, hn⟩ q)
      refine ⟨by rw [upd_ne this]; exact f, ho', h1, ?_⟩
      have := RMO.mono E h2
      exact this
  · have up : ∀ k, Live (m.kill n) k → Live m k := fun k ⟨u, e⟩ => by
      rw [get_kill lt] at e
      split at e
      · cases e
      · exact ⟨u, e⟩
    exact M.inj k k' (up k l) (up k' l') e
end

/-! ### what a result asks -/
/-- an exception as it flies: its class, its own dict -/
def RX (g : Gn) (F : Hp) (x : Ex) (cls : Value) (dd : Option Addr) (H : Hp) : Prop :=
  cls = .ref (g.cA x.c) ∧ ∃ d fs, dd = some d ∧ H d = some (.xd fs) ∧ RPf g F x.l fs
/-- a result r from (ρ, F, m, H): what is wanted of its value, of an exception -/
def Post {α β : Type} (g : Gn) (rel : Rho → Hp → Nat → α → β → Prop) (ρ : Rho) (F : Hp) (m : Mem) (H : Hp) (r : R α) (Q : β → Hp → Prop) (E : XK) : Prop := match r with
  | .ok d m' => ∀ v H' ρ' F', Ext ρ F m H ρ' F' m' H' → MRel g ρ' F' m' H' → rel ρ' F' m'.length d v → Q v H'
  | .ex x m' => ∀ cls dd H' ρ' F', Ext ρ F m H ρ' F' m' H' → MRel g ρ' F' m' H' → RX g F' x cls dd H' → E cls dd H'
  | .no => False
theorem Post.on {α β : Type} {g : Gn} {rel : Rho → Hp → Nat → α → β → Prop} {ρ ρ1 : Rho} {F F1 : Hp} {m m1 : Mem} {H H1 : Hp} {r : R α} {Q : β → Hp → Prop} {E : XK} (a : Ext ρ F m H ρ1 F1 m1 H1) (h : Post g rel ρ F m H r Q E) : Post g rel ρ1 F1 m1 H1 r Q E := by
  cases r with
  | ok d m' => exact fun v H' ρ' F' e M q => h v H' ρ' F' (a.trans e) M q
  | ex x m' => exact fun cls dd H' ρ' F' e M q => h cls dd H' ρ' F' (a.trans e) M q
  | no => exact h.elim
/-- the slots -/
structure RSl (g : Gn) (ρ : Rho) (F : Hp) (k : Nat) (δ : List (Option D)) (σ : L2.St) : Prop where
  len : δ.length ≤ σ.length
  get : ∀ (i : Nat) (d : D), δ[i]? = some (some d) → ∃ v, σ[i]? = some (some v) ∧ RD g ρ F k d v
theorem RSl.mono {g : Gn} {ρ ρ1 : Rho} {F F1 : Hp} {m m1 : Mem} {H H1 : Hp} {δ : List (Option D)} {σ : L2.St} (a : Ext ρ F m H ρ1 F1 m1 H1) (h : RSl g ρ F m.length δ σ) : RSl g ρ1 F1 m1.length δ σ := ⟨h.len, fun i d e => by
  obtain ⟨v, e1, r⟩ := h.get i d e
  exact ⟨v, e1, r.mono a⟩⟩
theorem RSl.set {g : Gn} {ρ : Rho} {F : Hp} {k : Nat} {δ : List (Option D)} {σ : L2.St} {d : D} {v : V} (h : RSl g ρ F k δ σ) (i : Nat) (r : RD g ρ F k d v) : RSl g ρ F k (δ.set i (some d)) (σ.set i (some v)) := ⟨by simpa using h.len, fun j e q => by
  by_cases z : i = j
  · subst z
    have hl : i < δ.length := by
      have := (List.getElem?_eq_some_iff.mp q).1
      simpa using this
    rw [List.getElem?_set_self hl] at q
    cases q
    exact ⟨v, List.getElem?_set_self (Nat.lt_of_lt_of_le hl h.len), r⟩
  · rw [List.getElem?_set_ne z] at q ⊢
    exact h.get j e q⟩
theorem RSl.wipe1 {g : Gn} {ρ : Rho} {F : Hp} {k : Nat} {δ : List (Option D)} {σ : L2.St} (h : RSl g ρ F k δ σ) (i : Nat) : RSl g ρ F k (δ.set i none) (σ.set i none) := ⟨by simpa using h.len, fun j e q => by
  by_cases z : i = j
  · subst z
    have hl : i < δ.length := by
      have := (List.getElem?_eq_some_iff.mp q).1
      simpa using this
    rw [List.getElem?_set_self hl] at q
    cases q
  · rw [List.getElem?_set_ne z] at q ⊢
    exact h.get j e q⟩
end Dn

/-! Dn, part C: the copied syntax and its evaluation. -/
noncomputable section
namespace Dn
open PySem L2

inductive BOp where | add | sub | mul | mod | fdiv | pow
inductive COp where | eq | ne | lt | le | gt | ge | isn | notn | inn | nin
inductive Ty where | int | bool | str | list | tuple | dict | own (c : Nat)
inductive BF where | len | int | abs | list | tuple | all | any | sum | str
inductive BM where | join | append
mutual
inductive T where | nm (i : Nat) | tp (l : TL)
inductive TL where | nil | cons (t : T) (l : TL)
end
mutual
inductive RE where
  | var (i : Nat)
  | cst (x : P)
  | glo (n : Nat)
  | tup (l : RL) | lst (mu : Bool) (l : RL)
  | bin (o : BOp) (a b : RE) | neg (a : RE)
  | cmp (o : COp) (a b : RE) | cmp2 (o o' : COp) (a b c : RE)
  | and (a b : RE) | or (a b : RE) | not (a : RE)
  | ite (c a b : RE)
  | isi (a : RE) (one : Bool) (l : List Ty)
  | ix (a b : RE) | sl (a : RE) (lo hi : RO)
  | call (f : Nat) (l : RL)
  | callK (f : Nat) (l kl : RL) (pm : List Nat)
  | bcl (f : BF) (l : RL)
  | bmt (f : BM) (a : RE) (l : RL)
  | lc (mu : Bool) (elt : RE) (t : T) (it : RI) (c : RO) (own : List Nat)
  | frz (a : RE)
inductive RL where | nil | cons (e : RE) (l : RL) | star (e : RE) (l : RL)
inductive RO where | none | some (e : RE)
inductive RI where | seq (e : RE) | rng (a : RE) | rng2 (a b : RE) | zip (a b : RE) | enum (a : RE)
end
mutual
inductive RS where
  | set (i : Nat) (e : RE)
  | asg (t : T) (e : RE)
  | par (is : List Nat) (l : RL)
  | iset (a b e : RE)
  | aug (i : Nat) (o : BOp) (e : RE)
  | iaug (a b : RE) (o : BOp) (e : RE)
  | ex (e : RE)
  | ret (e : RE)
  | ite (c : RE) (a b : RB)
  | forr (t : T) (it : RI) (b : RB)
  | whl (n : Nat) (c : RE) (b : RB)
  | pas | brk | cnt
inductive RB where | nil | cons (s : RS) (b : RB)
end

/-! ### values -/
def allP : List D → Option (List P)
  | [] => some []
  | .p x :: l => (allP l).map (x :: ·)
  | .ref _ :: _ => none
/-- read through one list of the store -/
def rdP (m : Mem) : D → Option P
  | .p x => some x
  | .ref n => match m.get n with
    | some (.lst l) => (allP l).map P.lst
    | _ => none
def P.shp (x : P) : Bool := x.dat && SeqAt.shaped x.py
def eqP (x y : P) : Option Bool := match x, y with
  | .str a, .str b => some (decide (a = b))
  | x, y => if x.shp && y.shp then some (PyData.eqv x.py y.py) else none
def mkL (mu : Bool) (l : List D) (m : Mem) : R D := if l.length ≤ sizeLine then (match mu, allP l with
  | false, some ps => .ok (.p (.lst ps)) m
  | _, _ => .ok (.ref m.length) (m.new (.lst l))) else .no
def mkT (l : List D) (m : Mem) : R D := if l.length ≤ sizeLine then (match allP l with
  | some ps => .ok (.p (.tup ps)) m
  | none => .no) else .no
/-- a list's or tuple's items -/
def seqD (m : Mem) : D → Option (List D)
  | .p (.lst l) => some (l.map D.p)
  | .p (.tup l) => some (l.map D.p)
  | .p (.ktp l) => some (l.map D.p)
  | .ref n => match m.get n with
    | some (.lst l) => some l
    | _ => none
  | _ => none
def flatP : P → Bool
  | .non => true
  | .bl _ => true
  | .int _ => true
  | .str _ => true
  | _ => false
def hasS (z y : Str) : Bool := match y.cps.toList with
  | [c] => decide (c ∈ z.cps.toList)
  | _ => !(Builtin.Str.occurrences z y 0 z.length 1).isEmpty
/-- a dict's item: none where the key is none of its kind -/
def dget (t : Bool) (l : List (P × P)) (k : P) : Option (Option P) := match t with
  | false => match keyP k with
    | some κ => some ((l.find? fun kv => decide (keyP kv.1 = some κ)).map (·.2))
    | none => none
  | true => match keyT k with
    | some κ => some ((l.find? fun kv => decide (keyT kv.1 = some κ)).map (·.2))
    | none => none
def inP (x y : P) : Option Bool := match y with
  | .str b => (match x with
    | .str a => some (hasS b a)
    | _ => none)
  | .lst l => if x.shp && (P.lst l).shp then some (l.any fun z => PyData.eqv z.py x.py) else none
  | .tup l => if flatP x && l.all flatP then some (l.any fun z => PyData.eqv z.py x.py) else none
  | .ktp l => if flatP x && l.all flatP then some (l.any fun z => PyData.eqv z.py x.py) else none
  | .dct t l => (dget t l x).map (·.isSome)
  | _ => none
def ltP (x y : P) : Option Bool := match x, y with
  | .int a, .int b => some (decide (a < b))
  | .str a, .str b => some (decide (a.cps.toList < b.cps.toList))
  | _, _ => none
def leP (x y : P) : Option Bool := match x, y with
  | .int a, .int b => some (decide (a ≤ b))
  | _, _ => none
def isN : D → Bool
  | .p .non => true
  | _ => false
def oB (o : Option Bool) (m : Mem) : R D := match o with | some b => .ok (.p (.bl b)) m | none => .no
def cmpB (f : P → P → Option Bool) (a b : D) (m : Mem) : R D := match rdP m a, rdP m b with
  | some x, some y => oB (f x y) m
  | _, _ => .no
def cmpS (o : COp) (a b : D) (m : Mem) : R D := match o with
  | .isn => if isN b then .ok (.p (.bl (isN a))) m else .no
  | .notn => if isN b then .ok (.p (.bl (!isN a))) m else .no
  | .eq => cmpB eqP a b m
  | .ne => cmpB (fun x y => (eqP x y).map (!·)) a b m
  | .lt => cmpB ltP a b m
  | .gt => cmpB (fun x y => ltP y x) a b m
  | .le => cmpB leP a b m
  | .ge => cmpB (fun x y => leP y x) a b m
  | .inn => cmpB inP a b m
  | .nin => cmpB (fun x y => (inP x y).map (!·)) a b m
def mulOk (i j : Int) : Bool := (decide (-(2 ^ 64) < i) && decide (i < 2 ^ 64)) || (decide (-(2 ^ 64) < j) && decide (j < 2 ^ 64))
def isTupD : D → Bool
  | .p (.tup _) => true
  | .p (.ktp _) => true
  | _ => false
def catS (a b : D) (m : Mem) : R D := if (isTupD a || isTupD b) = true then .no else match seqD m a, seqD m b with
  | some x, some y => if x.length + y.length ≤ sizeLine then mkL false (x ++ y) m else .no
  | _, _ => .no
def binS (o : BOp) (a b : D) (m : Mem) : R D := match o, a, b with
  | .add, .p (.int i), .p (.int j) => .ok (.p (.int (i + j))) m
  | .sub, .p (.int i), .p (.int j) => .ok (.p (.int (i - j))) m
  | .mul, .p (.int i), .p (.int j) => if mulOk i j then .ok (.p (.int (i * j))) m else .no
  | .mod, .p (.int i), .p (.int j) => if 0 < j then .ok (.p (.int (i % j))) m else .no
  | .fdiv, .p (.int i), .p (.int j) => if 0 < j ∧ j < 1073741824 then .ok (.p (.int (i / j))) m else .no
  | .pow, .p (.int i), .p (.int j) => if 0 ≤ j ∧ j ≤ 1000000 ∧ i.natAbs < 2 ^ 64 then .ok (.p (.int (i ^ j.toNat))) m else .no
  | .add, .p (.str x), .p (.str y) => if x.length + y.length ≤ sizeLine then .ok (.p (.str (x ++ y))) m else .no
  | .add, .p (.tup x), .p (.tup y) => if x.length + y.length ≤ sizeLine ∧ x ≠ [] then .ok (.p (.tup (x ++ y))) m else .no
  | .mul, .p (.lst x), .p (.int j) => if -(2 ^ 63) ≤ j ∧ j < 2 ^ 63 ∧ x.length * j.toNat ≤ sizeLine then .ok (.p (.lst (List.replicate j.toNat x).flatten)) m else .no
  | .add, a, b => catS a b m
  | _, _, _ => .no
def tyS : Ty → String
  | .int => "int" | .bool => "bool" | .str => "str" | .list => "list" | .tuple => "tuple" | .dict => "dict" | .own _ => ""
/-- the kind of a value -/
def kindS : D → Mem → Option (Nat ⊕ String)
  | .p .non, _ => some (.inr "NoneType")
  | .p (.bl _), _ => some (.inr "bool")
  | .p (.int _), _ => some (.inr "int")
  | .p (.str _), _ => some (.inr "str")
  | .p (.lst _), _ => some (.inr "list")
  | .p (.tup _), _ => some (.inr "tuple")
  | .p (.dct false _), _ => some (.inr "dict")
  | .p (.dct true _), _ => none
  | .p (.ins k _), _ => some (.inl k)
  | .p (.ktp _), _ => none
  | .p (.scr _), _ => none
  | .ref n, m => match m.get n with
    | some (.lst _) => some (.inr "list")
    | some (.dct _) => some (.inr "dict")
    | some (.dcT _) => some (.inr "dict")
    | some (.ins k _) => some (.inl k)
    | _ => none
def isK (c : Ty) : Nat ⊕ String → Bool
  | .inl k => match c with | .own j => decide (j = k) | _ => false
  | .inr s => match c with | .int => s == "int" || s == "bool" | .own _ => false | t => s == tyS t
def isTy (c : Ty) (d : D) (m : Mem) : Option Bool := (kindS d m).map (isK c)
def isTys (l : List Ty) (d : D) (m : Mem) : Option Bool := match l with
  | [] => some false
  | c :: l => match isTy c d m with
    | some true => some true
    | some false => isTys l d m
    | none => none
def ixS (a b : D) (m : Mem) : R D := match a, b with
  | .p (.str z), .p (.int i) => if z.length ≤ sizeLine then (match atI z.cps.toList i with | some c => .ok (.p (.str ⟨#[c]⟩)) m | none => .no) else .no
  | .p (.dct t l), .p k => match dget t l k with
    | some (some x) => .ok (.p x) m
    | _ => .no
  | a, .p (.int i) => match seqD m a with
    | some l => (match atI l i with | some d => .ok d m | none => .no)
    | none => .no
  | _, _ => .no
def cutD {α : Type} (xs : List α) (lo hi : Option Int) : List α := (xs.drop (HT.sIx xs.length 0 lo)).take (HT.sIx xs.length xs.length hi - HT.sIx xs.length 0 lo)
def slS (a : D) (lo hi : Option Int) (m : Mem) : R D := match a with
  | .p (.str z) => if z.length ≤ sizeLine then .ok (.p (.str (cutS z lo hi))) m else .no
  | .p (.lst l) => .ok (.p (.lst (cutD l lo hi))) m
  | .p (.scr ns) => .ok (.p (.lst ((cutD ns lo hi).map P.int))) m
  | .p (.tup l) => if HT.sIx l.length 0 lo = 0 ∧ HT.sIx l.length l.length hi = l.length then .no else .ok (.p (.tup (cutD l lo hi))) m
  | .ref n => match m.get n with
    | some (.lst l) => (match allP l with | some ps => .ok (.p (.lst (cutD ps lo hi))) m | none => .ok (.ref m.length) (m.new (.lst (cutD l lo hi))))
    | _ => .no
  | _ => .no
def strsP : List P → Option (List Str)
  | [] => some []
  | .str s :: l => (strsP l).map (s :: ·)
  | _ :: _ => none
def intsP : List P → Option (List Int)
  | [] => some []
  | .int s :: l => (intsP l).map (s :: ·)
  | _ :: _ => none
def blsP : List P → Option (List Bool)
  | [] => some []
  | .bl s :: l => (blsP l).map (s :: ·)
  | _ :: _ => none
def lenS (a : D) (m : Mem) : R D := match a with
  | .p (.str z) => if z.length ≤ sizeLine then .ok (.p (.int z.length)) m else .no
  | .p (.dct false l) => .ok (.p (.int l.length)) m
  | a => match seqD m a with
    | some l => .ok (.p (.int l.length)) m
    | none => .no
def intS (a : D) (m : Mem) : R D := match a with
  | .p (.int i) => .ok (.p (.int i)) m
  | .p (.bl b) => .ok (.p (.int (if b then 1 else 0))) m
  | .p (.str z) => match PySem.intText? z with
    | some n => if z.length ≤ 640 then .ok (.p (.int n)) m else .no
    | none => .no
  | _ => .no
def onL {α : Type} (f : List P → Option α) (g : α → P) (a : D) (m : Mem) : R D := match rdP m a with
  | some (.lst l) => (match f l with | some x => .ok (.p (g x)) m | none => .no)
  | _ => .no
def listS (a : D) (m : Mem) : R D := match seqD m a with
  | some l => mkL false l m
  | none => .no
def tupleS (a : D) (m : Mem) : R D := if isTupD a = true then .ok a m else match seqD m a with
  | some l => mkT l m
  | none => .no
def absS (a : D) (m : Mem) : R D := match a with
  | .p (.int i) => .ok (.p (.int (if i < 0 then -i else i))) m
  | _ => .no
def strS (a : D) (m : Mem) : R D := match a with
  | .p (.int i) => if i.natAbs.log2 < 1920 then .ok (.p (.str (toString i))) m else .no
  | _ => .no
def bclS (f : BF) (l : List D) (m : Mem) : R D := match l with
  | [a] => (match f with
    | .len => lenS a m
    | .int => intS a m
    | .abs => absS a m
    | .list => listS a m
    | .tuple => tupleS a m
    | .all => onL blsP (fun bs => .bl (bs.all id)) a m
    | .any => onL blsP (fun bs => .bl (bs.any id)) a m
    | .sum => onL intsP (fun ns => .int ns.sum) a m
    | .str => strS a m)
  | _ => .no
def seqP (m : Mem) (a : D) : Option (List P) := match seqD m a with
  | some l => allP l
  | none => none
def joinS (a : D) (l : List D) (m : Mem) : R D := match a, l with
  | .p (.str s), [b] => (match (seqP m b).bind strsP with
    | some ss => if (ss.map Str.length).sum + ss.length * s.length ≤ 16777216 then .ok (.p (.str (Txt.join s ss))) m else .no
    | none => .no)
  | _, _ => .no
def appendS (a : D) (l : List D) (m : Mem) : R D := match a, l with
  | .ref n, [d] => (match m.get n with
    | some (.lst l) => if l.length < sizeLine then .ok (.p .non) (m.put n (.lst (l ++ [d]))) else .no
    | _ => .no)
  | _, _ => .no
def bmtS (f : BM) (a : D) (l : List D) (m : Mem) : R D := match f with
  | .join => joinS a l m
  | .append => appendS a l m
def bmL : BM → Bool
  | .append => true
  | _ => false
/-- whose method it is -/
def bmPre (f : BM) (a : D) (m : Mem) : Bool := match a with
  | .p (.str _) => !bmL f
  | .ref n => (match m.get n with
    | some (.lst _) => bmL f
    | _ => false)
  | _ => false
def isetS (a b e : D) (m : Mem) : R Unit := match a, b with
  | .ref n, .p (.int i) => match m.get n with
    | some (.lst l) => (match ixN l.length i with | some j => .ok () (m.put n (.lst (l.set j e))) | none => .no)
    | _ => .no
  | _, _ => .no
def frzS (d : D) (m : Mem) : R D := match d with
  | .p x => .ok (.p x) m
  | .ref n => match m.get n with
    | some (.lst l) => (match allP l with | some ps => .ok (.p (.lst ps)) (m.kill n) | none => .no)
    | some (.ins c l) => (match allP (l.map (·.2)) with | some ps => .ok (.p (.ins c ((l.map (·.1)).zip ps))) (m.kill n) | none => .no)
    | _ => .no

/-! ### targets, walks -/
abbrev Sl := List (Option D)
mutual
def asgT : T → D → Mem → Sl → Option Sl
  | .nm i, d, _, δ => some (δ.set i (some d))
  | .tp l, d, m, δ => match seqD m d with
    | some ds => asgTL l ds m δ
    | none => none
def asgTL : TL → List D → Mem → Sl → Option Sl
  | .nil, [], _, δ => some δ
  | .cons t l, d :: ds, m, δ => match asgT t d m δ with
    | some δ' => asgTL l ds m δ'
    | none => none
  | _, _, _, _ => none
end
def wipeD (δ : Sl) : List Nat → Sl
  | [] => δ
  | v :: vs => (wipeD δ vs).set v none
/-- items, and the list of the store that must stand as it is while it is walked -/
structure Its where
  l : List D
  n : Option Nat
def Its.held (t : Its) (m : Mem) : Prop := match t.n with
  | none => True
  | some n => m.get n = some (.lst t.l)
def zipP : List P → List P → List D
  | a :: l, b :: r => .p (.tup [a, b]) :: zipP l r
  | _, _ => []
def itSeq (d : D) (m : Mem) : Option Its := match d with
  | .p (.lst l) => some ⟨l.map D.p, none⟩
  | .p (.tup l) => some ⟨l.map D.p, none⟩
  | .p (.ktp l) => some ⟨l.map D.p, none⟩
  | .p (.str z) => some ⟨z.cps.toList.map fun c => .p (.str ⟨#[c]⟩), none⟩
  | .ref n => match m.get n with
    | some (.lst l) => some ⟨l, some n⟩
    | _ => none
  | _ => none
def itRng (d : D) : Option Its := match d with
  | .p (.int i) => if -(2 ^ 62) ≤ i ∧ i < 2 ^ 62 then some ⟨(List.range i.toNat).map fun (k : Nat) => .p (.int (k : Int)), none⟩ else none
  | _ => none
def itRng2 (d e : D) : Option Its := match d, e with
  | .p (.int i), .p (.int j) => if -(2 ^ 62) ≤ i ∧ i < 2 ^ 62 ∧ -(2 ^ 62) ≤ j ∧ j < 2 ^ 62 then some ⟨(List.range (j - i).toNat).map fun (k : Nat) => .p (.int (i + (k : Int))), none⟩ else none
  | _, _ => none
def enumP : Nat → List P → List D
  | k, a :: l => .p (.tup [.int k, a]) :: enumP (k + 1) l
  | _, [] => []
def itEnum (a : D) : Option Its := match a with
  | .p (.lst l) => some ⟨enumP 0 l, none⟩
  | _ => none
def itZip (a b : D) : Option Its := match a, b with
  | .p (.lst l), .p (.lst r) => some ⟨zipP l r, none⟩
  | .p (.tup l), .p (.tup r) => some ⟨zipP l r, none⟩
  | _, _ => none
def oR {α : Type} (o : Option α) (m : Mem) : R α := match o with | some a => .ok a m | none => .no
/-- what a comprehension's turn may not do: raise -/
def R.calm {α : Type} : R α → R α
  | .ok a m => .ok a m
  | _ => .no
def asB (d : D) (m : Mem) : R Bool := match d with
  | .p (.bl b) => .ok b m
  | _ => .no
open Classical in
def lcRun (f : D → Mem → R (Option D)) (t : Its) : List D → Mem → R (List D)
  | [], m => if t.held m then .ok [] m else .no
  | x :: xs, m => if t.held m then (f x m).calm.bind fun o m1 => (lcRun f t xs m1).bind fun ys m2 => .ok (o.toList ++ ys) m2 else .no

/-- the arguments in the parameters' order -/
def permL {α : Type} (pm : List Nat) (xs zs : List α) : List α := pm.filterMap fun i => (xs ++ zs)[i]?
section
variable (cl : Nat → List D → Mem → R D) (gv : Nat → P)
mutual
def den : RE → Sl → Mem → R D
  | .var i, δ, m => match δ[i]? with
    | some (some d) => .ok d m
    | _ => .no
  | .cst x, _, m => .ok (.p x) m
  | .glo n, _, m => .ok (.p (gv n)) m
  | .tup l, δ, m => (denL l δ m).bind mkT
  | .lst mu l, δ, m => (denL l δ m).bind (mkL mu)
  | .bin o a b, δ, m => (den a δ m).bind fun x m => (den b δ m).bind fun y m => binS o x y m
  | .neg a, δ, m => (den a δ m).bind fun x m => match x with | .p (.int i) => .ok (.p (.int (-i))) m | _ => .no
  | .cmp o a b, δ, m => (den a δ m).bind fun x m => (den b δ m).bind fun y m => cmpS o x y m
  | .cmp2 o o' a b c, δ, m => (den a δ m).bind fun x m => (den b δ m).bind fun y m => (cmpS o x y m).bind fun k m => (asB k m).bind fun k m =>
      if k then (den c δ m).bind fun z m => cmpS o' y z m else .ok (.p (.bl false)) m
  | .and a b, δ, m => (den a δ m).bind fun x m => (asB x m).bind fun x m => if x then den b δ m else .ok (.p (.bl false)) m
  | .or a b, δ, m => (den a δ m).bind fun x m => (asB x m).bind fun x m => if x then .ok (.p (.bl true)) m else den b δ m
  | .not a, δ, m => (den a δ m).bind fun x m => (asB x m).bind fun x m => .ok (.p (.bl (!x))) m
  | .ite c a b, δ, m => (den c δ m).bind fun x m => (asB x m).bind fun x m => if x then den a δ m else den b δ m
  | .isi a _ l, δ, m => (den a δ m).bind fun x m => oB (isTys l x m) m
  | .ix a b, δ, m => (den a δ m).bind fun x m => (den b δ m).bind fun y m => ixS x y m
  | .sl a lo hi, δ, m => (den a δ m).bind fun x m => (denO lo δ m).bind fun i m => (denO hi δ m).bind fun j m => slS x i j m
  | .call f l, δ, m => (denL l δ m).bind (cl f)
  | .callK f l kl pm, δ, m => (denL l δ m).bind fun xs m => (denL kl δ m).bind fun zs m => cl f (permL pm xs zs) m
  | .bcl f l, δ, m => (denL l δ m).bind (bclS f)
  | .bmt f a l, δ, m => (den a δ m).bind fun x m => if bmPre f x m = true then (denL l δ m).bind (bmtS f x) else .no
  | .lc mu e t it c own, δ, m => (denI it δ m).bind fun its m =>
      (lcRun (fun x m => (oR (asgT t x m (wipeD δ own)) m).bind fun δ' m => (denC c δ' m).bind fun k m => if k then (den e δ' m).bind fun y m => .ok (some y) m else .ok none m) its its.l m).bind (mkL mu)
  | .frz a, δ, m => (den a δ m).bind frzS
def denL : RL → Sl → Mem → R (List D)
  | .nil, _, m => .ok [] m
  | .cons e l, δ, m => (den e δ m).bind fun x m => (denL l δ m).bind fun xs m => .ok (x :: xs) m
  | .star e l, δ, m => (den e δ m).bind fun x m => (oR (seqD m x) m).bind fun ys m => (denL l δ m).bind fun xs m => .ok (ys ++ xs) m
def denO : RO → Sl → Mem → R (Option Int)
  | .none, _, m => .ok none m
  | .some e, δ, m => (den e δ m).bind fun x m => match x with | .p (.int i) => .ok (some i) m | _ => .no
def denC : RO → Sl → Mem → R Bool
  | .none, _, m => .ok true m
  | .some e, δ, m => (den e δ m).bind asB
def denI : RI → Sl → Mem → R Its
  | .seq e, δ, m => (den e δ m).bind fun x m => oR (itSeq x m) m
  | .rng e, δ, m => (den e δ m).bind fun x m => oR (itRng x) m
  | .rng2 a b, δ, m => (den a δ m).bind fun x m => (den b δ m).bind fun y m => oR (itRng2 x y) m
  | .zip a b, δ, m => (den a δ m).bind fun x m => (den b δ m).bind fun y m => oR (itZip x y) m
  | .enum a, δ, m => (den a δ m).bind fun x m => oR (itEnum x) m
end

/-- how a statement ends -/
inductive Fl where | nx | rt (d : D) | br | ct
/-- .. with its slots -/
inductive S where | ok (f : Fl) (δ : Sl) (m : Mem) | ex (x : Ex) (δ : Sl) (m : Mem) | no
def R.toS {α : Type} (r : R α) (δ : Sl) (f : α → Mem → S) : S := match r with | .ok a m => f a m | .ex x m => .ex x δ m | .no => .no
open Classical in
def forRun (f : D → Sl → Mem → S) (t : Its) : List D → Sl → Mem → S
  | [], δ, m => if t.held m then .ok .nx δ m else .no
  | x :: xs, δ, m => if t.held m then (match f x δ m with
      | .ok .nx δ m => forRun f t xs δ m
      | .ok .ct δ m => forRun f t xs δ m
      | .ok .br δ m => .ok .nx δ m
      | r => r) else .no
def whlRun (c : Sl → Mem → R Bool) (b : Sl → Mem → S) : Nat → Sl → Mem → S
  | 0, _, _ => .no
  | n + 1, δ, m => (c δ m).toS δ fun k m => if k then (match b δ m with
      | .ok .nx δ m => whlRun c b n δ m
      | .ok .ct δ m => whlRun c b n δ m
      | .ok .br δ m => .ok .nx δ m
      | r => r) else .ok .nx δ m
def getS (a b : D) (m : Mem) : R D := match a, b with
  | .ref n, .p (.int i) => (match m.get n with
    | some (.lst l) => (match atI l i with | some d => .ok d m | none => .no)
    | _ => .no)
  | _, _ => .no
def augS (o : BOp) (x y : D) (m : Mem) : R D := match o, x, y with
  | .add, .p (.int i), .p (.int j) => .ok (.p (.int (i + j))) m
  | .sub, .p (.int i), .p (.int j) => .ok (.p (.int (i - j))) m
  | .mul, .p (.int i), .p (.int j) => if mulOk i j then .ok (.p (.int (i * j))) m else .no
  | _, _, _ => .no
mutual
def denS : RS → Sl → Mem → S
  | .set i e, δ, m => (den cl gv e δ m).toS δ fun d m => .ok .nx (δ.set i (some d)) m
  | .asg t e, δ, m => (den cl gv e δ m).toS δ fun d m => match asgT t d m δ with
    | some δ' => .ok .nx δ' m
    | none => .no
  | .par is l, δ, m => (denL cl gv l δ m).toS δ fun ds m => if ds.length = is.length then .ok .nx ((is.zip ds).foldl (fun δ p => δ.set p.1 (some p.2)) δ) m else .no
  | .iset a b e, δ, m => (den cl gv e δ m).toS δ fun v m => (den cl gv a δ m).toS δ fun x m => (den cl gv b δ m).toS δ fun y m => (isetS x y v m).toS δ fun _ m => .ok .nx δ m
  | .aug i o e, δ, m => match δ[i]? with
    | some (some x) => (den cl gv e δ m).toS δ fun y m => (augS o x y m).toS δ fun z m => .ok .nx (δ.set i (some z)) m
    | _ => .no
  | .iaug a b o e, δ, m => (den cl gv a δ m).toS δ fun u m => (den cl gv b δ m).toS δ fun i m => (getS u i m).toS δ fun x m => (den cl gv e δ m).toS δ fun y m => (augS o x y m).toS δ fun z m => (isetS u i z m).toS δ fun _ m => .ok .nx δ m
  | .ex e, δ, m => (den cl gv e δ m).toS δ fun _ m => .ok .nx δ m
  | .ret e, δ, m => (den cl gv e δ m).toS δ fun d m => .ok (.rt d) δ m
  | .ite c a b, δ, m => ((den cl gv c δ m).bind asB).toS δ fun k m => if k then denB a δ m else denB b δ m
  | .forr t it b, δ, m => (denI cl gv it δ m).toS δ fun its m => forRun (fun x δ m => match asgT t x m δ with
    | some δ' => denB b δ' m
    | none => .no) its its.l δ m
  | .whl n c b, δ, m => whlRun (fun δ m => (den cl gv c δ m).bind asB) (denB b) n δ m
  | .pas, δ, m => .ok .nx δ m
  | .brk, δ, m => .ok .br δ m
  | .cnt, δ, m => .ok .ct δ m
def denB : RB → Sl → Mem → S
  | .nil, δ, m => .ok .nx δ m
  | .cons s b, δ, m => match denS s δ m with
    | .ok .nx δ m => denB b δ m
    | r => r
end
end
/-- a def: how many parameters, slots; its defaults; is the last parameter a starred one; its body -/
structure FD where
  np : Nat
  ns : Nat
  df : List P
  st : Bool
  body : RB
def argsD (f : FD) (l : List D) : Option (List D) := match f.st with
  | true => if f.np ≤ l.length + 1 then (allP (l.drop (f.np - 1))).map fun ps => l.take (f.np - 1) ++ [.p (.tup ps)] else none
  | false => if l.length ≤ f.np ∧ f.np ≤ l.length + f.df.length then some (l ++ (f.df.drop (l.length + f.df.length - f.np)).map D.p) else none
def startD (n : Nat) (l : List D) : Sl := l.map some ++ List.replicate (n - l.length) none
def endS : S → R D
  | .ok (.rt d) _ m => .ok d m
  | .ok .nx _ m => .ok (.p .non) m
  | .ex x _ m => .ex x m
  | _ => .no
def runD (cl : Nat → List D → Mem → R D) (gv : Nat → P) (f : FD) (l : List D) (m : Mem) : R D := match argsD f l with
  | some l => endS (denB cl gv f.body (startD f.ns l) m)
  | none => .no
/-- a program: its defs, its constants -/
structure Pg where
  fd : Nat → Option FD
  gv : Nat → P
def callAt (p : Pg) : Nat → Nat → List D → Mem → R D
  | 0, _, _, _ => .no
  | k + 1, f, l, m => match p.fd f with
    | some d => runD (callAt p k) p.gv d l m
    | none => .no
end Dn
end

/-! Dn, part D: operations by values. -/
namespace Dn
open PySem PySem.Spec PyProof.Rows L2

abbrev PostD (g : Gn) := Post g (RD g)
section
variable {g : Gn} {ρ : Rho} {F H : Hp} {m : Mem} {Q : VK} {E : XK}
theorem Post.val {α β : Type} {rel : Rho → Hp → Nat → α → β → Prop} {d : α} {v : β} {Q : β → Hp → Prop} (h : Post g rel ρ F m H (.ok d m) Q E) (M : MRel g ρ F m H) (r : rel ρ F m.length d v) : Q v H := h v H ρ F Ext.refl M r
theorem MRel.free (M : MRel g ρ F m H) {a : Addr} (ha : H a = none) : F a = none := by
  cases e : F a with
  | none => rfl
  | some o => rcases M.sub a o e with h | ⟨_, _, h⟩ <;> (rw [ha] at h; cases h)
theorem subNew {a : Addr} {ho : HO} (h : F a = none) : Sub F (upd F a ho) := Sub.of fun b o e => by rw [upd_ne (ne_of_none e h)]; exact e
theorem Post.newLst {ps : List P} {vs : List V} {a : Addr} (h : PostD g ρ F m H (.ok (.p (.lst ps)) m) Q E) (M : MRel g ρ F m H) (r : RPs g F ps vs) (ha : H a = none) : Q (.ref a) (upd H a (.lst vs)) := by
  obtain ⟨x, M'⟩ := step_pure (ho := .lst vs) M ha
  exact h _ _ _ _ x M' (RP.lst upd_same (RPs.up (subNew (M.free ha)) r))
theorem Post.newTup {ps : List P} {vs : List V} {a : Addr} (h : PostD g ρ F m H (.ok (.p (.tup ps)) m) Q E) (M : MRel g ρ F m H) (r : RPs g F ps vs) (ha : H a = none) : Q (.ref a) (upd H a (.tup vs)) := by
  obtain ⟨x, M'⟩ := step_pure (ho := .tup vs) M ha
  exact h _ _ _ _ x M' (RP.tup upd_same (RPs.up (subNew (M.free ha)) r))
theorem allP_eq : ∀ {l : List D} {ps : List P}, allP l = some ps → l = ps.map D.p
  | [], ps, e => by cases e; rfl
  | .p x :: l, ps, e => by
    obtain ⟨qs, e1, e2⟩ := Option.map_eq_some_iff.mp (show (allP l).map (x :: ·) = some ps from e)
    subst e2
    rw [allP_eq e1]
    rfl
  | .ref _ :: _, _, e => by cases e
theorem allP_map (ps : List P) : allP (ps.map D.p) = some ps := by
  induction ps with
  | nil => rfl
  | cons x l ih =>
    show (allP (l.map D.p)).map (x :: ·) = _
    rw [ih]
    rfl
theorem Post.newL {l : List D} {vs : List V} {a : Addr} (h : PostD g ρ F m H (.ok (.ref m.length) (m.new (.lst l))) Q E) (M : MRel g ρ F m H) (r : RDs g ρ F m.length l vs) (ha : H a = none) : Q (.ref a) (upd H a (.lst vs)) := by
  obtain ⟨x, M', r'⟩ := step_new (o := .lst l) (ho := .lst vs) M ha r
  exact h _ _ _ _ x M' r'
theorem mkL_post {mu : Bool} {l : List D} {vs : List V} (h : PostD g ρ F m H (mkL mu l m) Q E) (M : MRel g ρ F m H) (r : RDs g ρ F m.length l vs) : vs.length ≤ sizeLine ∧ ∀ a, H a = none → Q (.ref a) (upd H a (.lst vs)) := by
  unfold mkL at h
  split at h
  · rename_i hl
    refine ⟨by rw [← r.length]; exact hl, fun a ha => ?_⟩
    split at h
    · rename_i ps e
      rw [allP_eq e] at r
      exact h.newLst M (RPs.of r) ha
    · exact h.newL M r ha
  · exact h.elim
theorem mkT_post {l : List D} {vs : List V} (h : PostD g ρ F m H (mkT l m) Q E) (M : MRel g ρ F m H) (r : RDs g ρ F m.length l vs) : vs.length ≤ sizeLine ∧ ∀ a, H a = none → Q (.ref a) (upd H a (.tup vs)) := by
  unfold mkT at h
  split at h
  · rename_i hl
    refine ⟨by rw [← r.length]; exact hl, fun a ha => ?_⟩
    split at h
    · rename_i ps e
      rw [allP_eq e] at r
      exact h.newTup M (RPs.of r) ha
    · exact h.elim
  · exact h.elim
theorem get_some {n : Nat} {o : MO} (h : m.get n = some o) : m[n]? = some (some o) := by
  unfold Mem.get at h
  cases e : m[n]? with
  | none => rw [e] at h; cases h
  | some x => rw [e] at h; cases x with
    | none => cases h
    | some y => cases h; rfl
/-- an object of the store, read -/
theorem MRel.look (M : MRel g ρ F m H) {n : Nat} {o : MO} {v : V} (e : m.get n = some o) (r : RD g ρ F m.length (.ref n) v) : ∃ ho, v = .ref (ρ n) ∧ H (ρ n) = some ho ∧ RMO g ρ F m.length o ho := by
  obtain ⟨_, ho, h1, h2⟩ := M.mem n o (get_some e)
  exact ⟨ho, r.2, h1, h2⟩
theorem rmo_lst {l : List D} {ho : HO} {k : Nat} (h : RMO g ρ F k (.lst l) ho) : ∃ vs, ho = .lst vs ∧ RDs g ρ F k l vs := by
  cases ho <;> first | exact ⟨_, rfl, h⟩ | exact (show False from h).elim
theorem rmo_dct {l : List (P × D)} {ho : HO} {k : Nat} (h : RMO g ρ F k (.dct l) ho) : ∃ vs, ho = .dK vs ∧ RDk g ρ F k l vs := by
  cases ho <;> first | exact ⟨_, rfl, h⟩ | exact (show False from h).elim
theorem rmo_dcT {l : List (P × D)} {ho : HO} {k : Nat} (h : RMO g ρ F k (.dcT l) ho) : ∃ vs, ho = .dT vs ∧ RDt g ρ F k l vs := by
  cases ho <;> first | exact ⟨_, rfl, h⟩ | exact (show False from h).elim
theorem rmo_ins {c : Nat} {l : List (Nat × D)} {ho : HO} {k : Nat} (h : RMO g ρ F k (.ins c l) ho) : ∃ dx fs, ho = .ins (g.cA c) dx fs ∧ g.cs c = true ∧ RDf g ρ F k l fs := by
  cases ho with
  | ins C dx fs =>
    have h2 : (C = g.cA c ∧ g.cs c = true) ∧ RDf g ρ F k l fs := h
    exact ⟨dx, fs, by rw [h2.1.1], h2.1.2, h2.2⟩
  | _ => exact (show False from h).elim
theorem rmo_scr {l : List Int} {ho : HO} {k : Nat} (h : RMO g ρ F k (.scr l) ho) : ∃ o, ho = .frz o (.lst (l.map V.int)) := by
  cases ho with
  | frz o u => cases u <;> first | exact ⟨o, by rw [show _ = _ from h]⟩ | exact (show False from h).elim
  | _ => exact (show False from h).elim
theorem rdP_ok (M : MRel g ρ F m H) {d : D} {x : P} {v : V} (e : rdP m d = some x) (r : RD g ρ F m.length d v) : RP g H x v := by
  cases d with
  | p y => cases e; exact RP.up M.sub r
  | ref n =>
    have e' : (match m.get n with | some (.lst l) => (allP l).map P.lst | _ => none) = some x := e
    cases q : m.get n with
    | none => rw [q] at e'; cases e'
    | some o =>
      rw [q] at e'
      cases o with
      | lst l =>
        obtain ⟨ps, e1, e2⟩ := Option.map_eq_some_iff.mp (show (allP l).map P.lst = some x from e')
        obtain ⟨ho, rfl, h1, h2⟩ := M.look q r
        obtain ⟨vs, rfl, h3⟩ := rmo_lst h2
        rw [← e2]
        rw [allP_eq e1] at h3
        exact .lst h1 (RPs.up M.sub (RPs.of h3))
      | _ => cases e'
/-- a sequence's items -/
theorem seqD_ok (M : MRel g ρ F m H) {d : D} {l : List D} {v : V} (e : seqD m d = some l) (r : RD g ρ F m.length d v) :
    ∃ a vs, v = .ref a ∧ RDs g ρ F m.length l vs ∧ ((H a = some (.lst vs) ∧ ((∃ ps, d = .p (.lst ps)) ∨ ∃ n, d = .ref n ∧ m.get n = some (.lst l))) ∨ (SqT g.K H a vs ∧ ∃ ps, d = .p (.tup ps) ∨ d = .p (.ktp ps))) := by
  cases d with
  | p y => cases y with
    | lst l' =>
      cases e
      cases r with
      | lst h t => exact ⟨_, _, rfl, RPs.ds t, .inl ⟨M.sub.lst h, .inl ⟨_, rfl⟩⟩⟩
    | tup l' =>
      cases e
      cases r with
      | tup h t => exact ⟨_, _, rfl, RPs.ds t, .inr ⟨SqT.of (M.sub.tup h), _, .inl rfl⟩⟩
    | ktp l' =>
      cases e
      cases r with
      | ktp h t => exact ⟨_, _, rfl, RPs.ds t, .inr ⟨h H, _, .inr rfl⟩⟩
    | _ => cases e
  | ref n =>
    have e' : (match m.get n with | some (.lst l) => some l | _ => none) = some l := e
    cases q : m.get n with
    | none => rw [q] at e'; cases e'
    | some o =>
      rw [q] at e'
      cases o with
      | lst l' =>
        cases e'
        obtain ⟨ho, rfl, h1, h2⟩ := M.look q r
        obtain ⟨vs, rfl, h3⟩ := rmo_lst h2
        exact ⟨_, _, rfl, h3, .inl ⟨h1, .inr ⟨n, rfl, q⟩⟩⟩
      | _ => cases e'
mutual
theorem RP.dp {x : P} {v : V} : x.dat = true → RP g H x v → Dp g.K H v x.py
  | _, .non => .non
  | _, .bl b => .bl b
  | _, .int i => .int i
  | _, .str s => .str s
  | e, .tup h t => .tup (SqT.of h) (RPs.dp e t)
  | e, .lst h t => .lst (SqL.of h) (RPs.dp e t)
  | e, .dK _ _ => absurd e Bool.false_ne_true
  | e, .dT _ _ => absurd e Bool.false_ne_true
  | e, .ins _ _ _ => absurd e Bool.false_ne_true
  | e, .ktp _ _ => absurd e Bool.false_ne_true
  | e, .scr _ => absurd e Bool.false_ne_true
theorem RPs.dp {l : List P} {vs : List V} : datL l = true → RPs g H l vs → DpAll g.K H vs (pyL l)
  | _, .nil => .nil
  | e, .cons h t => .cons (RP.dp (Bool.and_eq_true_iff.mp e).1 h) (RPs.dp (Bool.and_eq_true_iff.mp e).2 t)
end
theorem pyL_map (l : List P) : pyL l = l.map P.py := by
  induction l with
  | nil => rfl
  | cons x l ih => show x.py :: pyL l = _; rw [ih]; rfl
theorem strsP_eq : ∀ {l : List P} {ss : List Str}, strsP l = some ss → l = ss.map P.str
  | [], ss, e => by cases e; rfl
  | .str s :: l, ss, e => by
    obtain ⟨qs, e1, e2⟩ := Option.map_eq_some_iff.mp (show (strsP l).map (s :: ·) = some ss from e)
    subst e2; rw [strsP_eq e1]; rfl
  | .non :: _, _, e => by cases e
  | .bl _ :: _, _, e => by cases e
  | .int _ :: _, _, e => by cases e
  | .tup _ :: _, _, e => by cases e
  | .lst _ :: _, _, e => by cases e
  | .dct _ _ :: _, _, e => by cases e
  | .ins _ _ :: _, _, e => by cases e
  | .ktp _ :: _, _, e => by cases e
  | .scr _ :: _, _, e => by cases e
theorem intsP_eq : ∀ {l : List P} {ss : List Int}, intsP l = some ss → l = ss.map P.int
  | [], ss, e => by cases e; rfl
  | .int s :: l, ss, e => by
    obtain ⟨qs, e1, e2⟩ := Option.map_eq_some_iff.mp (show (intsP l).map (s :: ·) = some ss from e)
    subst e2; rw [intsP_eq e1]; rfl
  | .non :: _, _, e => by cases e
  | .bl _ :: _, _, e => by cases e
  | .str _ :: _, _, e => by cases e
  | .tup _ :: _, _, e => by cases e
  | .lst _ :: _, _, e => by cases e
  | .dct _ _ :: _, _, e => by cases e
  | .ins _ _ :: _, _, e => by cases e
  | .ktp _ :: _, _, e => by cases e
  | .scr _ :: _, _, e => by cases e
theorem blsP_eq : ∀ {l : List P} {ss : List Bool}, blsP l = some ss → l = ss.map P.bl
  | [], ss, e => by cases e; rfl
  | .bl s :: l, ss, e => by
    obtain ⟨qs, e1, e2⟩ := Option.map_eq_some_iff.mp (show (blsP l).map (s :: ·) = some ss from e)
    subst e2; rw [blsP_eq e1]; rfl
  | .non :: _, _, e => by cases e
  | .int _ :: _, _, e => by cases e
  | .str _ :: _, _, e => by cases e
  | .tup _ :: _, _, e => by cases e
  | .lst _ :: _, _, e => by cases e
  | .dct _ _ :: _, _, e => by cases e
  | .ins _ _ :: _, _, e => by cases e
  | .ktp _ :: _, _, e => by cases e
  | .scr _ :: _, _, e => by cases e
theorem RPs.strs : ∀ {ss : List Str} {vs : List V}, RPs g H (ss.map P.str) vs → vs = ss.map V.str
  | [], _, h => by cases h; rfl
  | _ :: _, _, h => by cases h with | cons h t => cases h; rw [RPs.strs t]; rfl
theorem RPs.ints : ∀ {ss : List Int} {vs : List V}, RPs g H (ss.map P.int) vs → vs = ss.map V.int
  | [], _, h => by cases h; rfl
  | _ :: _, _, h => by cases h with | cons h t => cases h; rw [RPs.ints t]; rfl
theorem RPs.bls : ∀ {ss : List Bool} {vs : List V}, RPs g H (ss.map P.bl) vs → vs = ss.map V.bl
  | [], _, h => by cases h; rfl
  | _ :: _, _, h => by cases h with | cons h t => cases h; rw [RPs.bls t]; rfl
theorem RPs.ofInts (ss : List Int) : RPs g H (ss.map P.int) (ss.map V.int) := by
  induction ss with
  | nil => exact .nil
  | cons i l ih => exact .cons (.int i) ih
theorem RPs.take {l : List P} {vs : List V} (n : Nat) (h : RPs g H l vs) : RPs g H (l.take n) (vs.take n) := by
  induction n generalizing l vs with
  | zero => exact .nil
  | succ n ih => cases h with
    | nil => exact .nil
    | cons h t => exact .cons h (ih t)
theorem RPs.drop {l : List P} {vs : List V} (n : Nat) (h : RPs g H l vs) : RPs g H (l.drop n) (vs.drop n) := by
  induction n generalizing l vs with
  | zero => exact h
  | succ n ih => cases h with
    | nil => exact .nil
    | cons h t => exact ih t
theorem RPs.append {l r : List P} {vs us : List V} (h : RPs g H l vs) (k : RPs g H r us) : RPs g H (l ++ r) (vs ++ us) := by
  induction l generalizing vs with
  | nil => cases h; exact k
  | cons x l ih => cases h with | cons h t => exact .cons h (ih t)
theorem RPs.rep {l : List P} {vs : List V} (h : RPs g H l vs) (n : Nat) : RPs g H (List.replicate n l).flatten (List.replicate n vs).flatten := by
  induction n with
  | zero => exact .nil
  | succ n ih =>
    rw [List.replicate_succ, List.replicate_succ, List.flatten_cons, List.flatten_cons]
    exact RPs.append h ih
theorem RPs.nilIff {l : List P} {vs : List V} (h : RPs g H l vs) : l = [] ↔ vs = [] := by cases h <;> simp
theorem flat_ok {x : P} {v : V} (h : RP g H x v) (f : flatP x = true) : flatV v = true := by cases h <;> first | rfl | exact absurd f Bool.false_ne_true
theorem flats_ok : ∀ {l : List P} {vs : List V}, RPs g H l vs → l.all flatP = true → vs.all flatV = true
  | _, _, .nil, _ => rfl
  | _, _, .cons h t, f => by
    rw [List.all_cons, Bool.and_eq_true] at f
    rw [List.all_cons, flat_ok h f.1, flats_ok t f.2]; rfl
theorem eqv_flat {x y : P} {v u : V} (h : RP g H x v) (k : RP g H y u) (f : flatP x = true) (f' : flatP y = true) : eqV v u = PyData.eqv x.py y.py := by
  cases h <;> cases k <;> first | rfl | exact absurd f Bool.false_ne_true | exact absurd f' Bool.false_ne_true
theorem inV_ok {x : P} {v : V} (h : RP g H x v) (f : flatP x = true) : ∀ {l : List P} {vs : List V}, RPs g H l vs → l.all flatP = true → inV v vs = l.any fun z => PyData.eqv z.py x.py
  | _, _, .nil, _ => rfl
  | _, _, .cons k t, f' => by
    rw [List.all_cons, Bool.and_eq_true] at f'
    have ih := inV_ok h f t f'.2
    unfold inV at ih ⊢
    rw [List.any_cons, List.any_cons, eqv_flat k h f'.1 f, ih]
end

/-- readings by values -/
def rd2 (g : Gn) (sem : D → D → Mem → R D) : R2 := fun x y H Q => ∃ d e m ρ F E, MRel g ρ F m H ∧ RD g ρ F m.length d x ∧ RD g ρ F m.length e y ∧ PostD g ρ F m H (sem d e m) Q E
def rdN (g : Gn) (sem : List D → Mem → R D) : List V → Hp → VK → Prop := fun xs H Q => ∃ ds m ρ F E, MRel g ρ F m H ∧ RDs g ρ F m.length ds xs ∧ PostD g ρ F m H (sem ds m) Q E
def rdM (g : Gn) (sem : D → List D → Mem → R D) : V → List V → Hp → VK → Prop := fun x xs H Q => ∃ d ds m ρ F E, MRel g ρ F m H ∧ RD g ρ F m.length d x ∧ RDs g ρ F m.length ds xs ∧ PostD g ρ F m H (sem d ds m) Q E

def bO : BOp → Operator
  | .add => .Add | .sub => .Sub | .mul => .Mult | .mod => .Mod | .fdiv => .FloorDiv | .pow => .Pow
def cO : COp → CmpOp
  | .eq => .Eq | .ne => .NotEq | .lt => .Lt | .le => .LtE | .gt => .Gt | .ge => .GtE | .isn => .Is | .notn => .IsNot | .inn => .In | .nin => .NotIn

section
variable {X : Cx} {g : Gn}
theorem bin_ok (hK : X.K = g.K) (o : BOp) : OpR X (binaryOp (bO o)) (rd2 g (binS o)) := by
  rintro pins s σ H x y v u Q I rx ry ⟨d, e, m, ρ, F, E, M, hd, he, h⟩
  unfold binS at h
  split at h
  · cases hd; cases he
    exact op_add pins s σ H _ _ v u Q I rx ry ⟨_, _, rfl, rfl, h.val M (RP.int _)⟩
  · cases hd; cases he
    exact op_sub pins s σ H _ _ v u Q I rx ry ⟨_, _, rfl, rfl, h.val M (RP.int _)⟩
  · cases hd; cases he
    split at h
    · rename_i c
      refine op_mul pins s σ H _ _ v u Q I rx ry ⟨_, _, rfl, rfl, ?_, h.val M (RP.int _)⟩
      unfold mulOk at c
      simpa [CMul] using c
    · exact h.elim
  · cases hd; cases he
    split at h
    · rename_i c
      exact op_mod pins s σ H _ _ v u Q I rx ry ⟨_, _, rfl, rfl, c, h.val M (RP.int _)⟩
    · exact h.elim
  · cases hd; cases he
    split at h
    · rename_i c
      exact op_fdiv pins s σ H _ _ v u Q I rx ry ⟨_, _, rfl, rfl, c, h.val M (RP.int _)⟩
    · exact h.elim
  · cases hd; cases he
    split at h
    · rename_i c
      exact op_pow pins s σ H _ _ v u Q I rx ry ⟨_, _, rfl, rfl, c, h.val M (RP.int _)⟩
    · exact h.elim
  · cases hd; cases he
    split at h
    · rename_i c
      exact op_add_str pins s σ H _ _ v u Q I rx ry ⟨_, _, rfl, rfl, c, h.val M (RP.str _)⟩
    · exact h.elim
  · cases hd with
    | tup h1 t1 => cases he with
      | tup h2 t2 =>
        split at h
        · rename_i c
          refine op_catT pins s σ H _ _ v u Q I rx ry ⟨_, _, _, _, rfl, rfl, SqT.of (M.sub.tup h1), SqT.of (M.sub.tup h2), fun z => c.2 (t1.nilIff.mpr z), by rw [← t1.length, ← t2.length]; exact c.1, fun z => ?_, fun _ p hp => h.newTup M (t1.append t2) hp⟩
          have z' := t2.nilIff.mpr z
          subst z'
          rw [List.append_nil] at h
          exact h.val M (RP.tup h1 t1)
        · exact h.elim
  · cases hd with
    | lst h1 t1 => cases he
                   split at h
                   · rename_i c
                     refine op_rep pins s σ H _ _ v u Q I rx ry ⟨_, _, _, rfl, rfl, M.sub.lst h1, c.1, c.2.1, by rw [← t1.length]; exact c.2.2, fun p hp => ?_⟩
                     exact h.newLst M (t1.rep _) hp
                   · exact h.elim
  · unfold catS at h
    split at h
    · exact h.elim
    · rename_i nt
      split at h
      · rename_i l1 l2 e1 e2
        split at h
        · rename_i c
          obtain ⟨a, vs, rfl, r1, q1⟩ := seqD_ok M e1 hd
          obtain ⟨b, us, rfl, r2, q2⟩ := seqD_ok M e2 he
          rcases q1 with ⟨k1, _⟩ | ⟨_, ps, z⟩
          · rcases q2 with ⟨k2, _⟩ | ⟨_, ps, z⟩
            · obtain ⟨z1, z2⟩ := mkL_post h M (r1.append r2)
              exact op_cat pins s σ H _ _ v u Q I rx ry ⟨_, _, _, _, rfl, rfl, k1, k2, by rw [List.length_append] at z1; exact z1, fun p hp => z2 p hp⟩
            · rcases z with z | z <;> (subst z; exact absurd (by simp [isTupD]) nt)
          · rcases z with z | z <;> (subst z; exact absurd (by simp [isTupD]) nt)
        · exact h.elim
      · exact h.elim
  · exact h.elim
end
end Dn

/-! Dn, part E: comparisons, subscripts, calls of built-ins, by values. -/
namespace Dn
open PySem PySem.Spec PyProof.Rows L2
section
variable {X : Cx} {g : Gn} {ρ : Rho} {F H : Hp} {m : Mem} {Q : VK} {E : XK}
theorem isN_ok {k : Nat} {d : D} {v : V} (r : RD g ρ F k d v) : isN d = decide (v = .non) := by
  cases d with
  | p x => cases r <;> simp [isN]
  | ref n => obtain ⟨_, rfl⟩ := r; simp [isN]
theorem isN_v {k : Nat} {d : D} {v : V} (r : RD g ρ F k d v) (h : isN d = true) : v = .non := by
  rw [isN_ok r] at h
  exact of_decide_eq_true h
theorem shp_dat {x : P} (h : x.shp = true) : x.dat = true := (Bool.and_eq_true_iff.mp h).1
theorem shp_sh {x : P} (h : x.shp = true) : SeqAt.shaped x.py = true := (Bool.and_eq_true_iff.mp h).2
theorem key_v {x : P} {κ : Key} {v : V} (e : keyP x = some κ) (r : RP g H x v) : v = kV κ := by
  cases r <;> first | (cases e; rfl) | cases e
theorem keys_v : ∀ {l : List P} {κ : List Key} {vs : List V}, keysP l = some κ → RPs g H l vs → vs = κ.map kV
  | [], κ, _, e, .nil => by cases e; rfl
  | x :: l, κ, _, e, .cons r t => by
    unfold keysP at e
    cases e1 : keyP x with
    | none => rw [e1] at e; cases e
    | some k =>
      cases e2 : keysP l with
      | none => rw [e1, e2] at e; cases e
      | some ks =>
        rw [e1, e2] at e
        cases e
        rw [key_v e1 r, keys_v e2 t]
        rfl
theorem keyT_v {x : P} {κ : List Key} {v : V} (e : keyT x = some κ) (r : RP g H x v) : ∃ b, v = .ref b ∧ H b = some (.tup (κ.map kV)) := by
  cases x with
  | tup l => cases r with
    | tup h t => exact ⟨_, rfl, by rw [h, keys_v e t]⟩
  | _ => cases e
def OptR (g : Gn) (H : Hp) (o : Option P) (w : Option V) : Prop := match o with
  | some x => ∃ z, w = some z ∧ RP g H x z
  | none => w = none
theorem find_k {κ : Key} : ∀ {l : List (P × P)} {kvs : List (Key × V)}, RPk g H l kvs → OptR g H ((l.find? fun kv => decide (keyP kv.1 = some κ)).map (·.2)) (valV kvs κ)
  | _, _, .nil => rfl
  | _, _, @RPk.cons _ _ k x κ' v l vs e r t => by
    rw [List.find?_cons]
    have hv : valV ((κ', v) :: vs) κ = if κ' = κ then some v else valV vs κ := by
      unfold valV
      rw [List.find?_cons]
      by_cases h : κ' = κ
      · simp [h]
      · simp [h]
    by_cases h : κ' = κ
    · subst h
      simp only [e, decide_true]
      exact ⟨v, by rw [hv, if_pos rfl], r⟩
    · have : decide (keyP k = some κ) = false := by rw [e]; exact decide_eq_false (fun z => h (Option.some.inj z))
      simp only [this]
      rw [hv, if_neg h]
      exact find_k t
theorem find_t {κ : List Key} : ∀ {l : List (P × P)} {kvs : List (List Key × V)}, RPt g H l kvs → OptR g H ((l.find? fun kv => decide (keyT kv.1 = some κ)).map (·.2)) (valV kvs κ)
  | _, _, .nil => rfl
  | _, _, @RPt.cons _ _ k x κ' v l vs e r t => by
    rw [List.find?_cons]
    have hv : valV ((κ', v) :: vs) κ = if κ' = κ then some v else valV vs κ := by
      unfold valV
      rw [List.find?_cons]
      by_cases h : κ' = κ
      · simp [h]
      · simp [h]
    by_cases h : κ' = κ
    · subst h
      simp only [e, decide_true]
      exact ⟨v, by rw [hv, if_pos rfl], r⟩
    · have : decide (keyT k = some κ) = false := by rw [e]; exact decide_eq_false (fun z => h (Option.some.inj z))
      simp only [this]
      rw [hv, if_neg h]
      exact find_t t
/-- a dict's item -/
theorem dget_ok {t : Bool} {l : List (P × P)} {k : P} {o : Option P} {v u : V} (s : Sub F H) (e : dget t l k = some o) (r : RP g F (.dct t l) v) (rk : RP g H k u) : ∃ a w, v = .ref a ∧ DGet H a u w ∧ OptR g F o w := by
  cases r with
  | dK h t =>
    unfold dget at e
    cases ek : keyP k with
    | none => rw [ek] at e; cases e
    | some κ =>
      rw [ek] at e
      cases e
      exact ⟨_, _, rfl, .inl ⟨_, κ, s.rd (.inl ⟨_, rfl⟩) h, key_v ek rk, rfl⟩, find_k t⟩
  | dT h t =>
    unfold dget at e
    cases ek : keyT k with
    | none => rw [ek] at e; cases e
    | some κ =>
      rw [ek] at e
      cases e
      obtain ⟨b, rfl, hb⟩ := keyT_v ek rk
      exact ⟨_, _, rfl, .inr ⟨_, κ, b, s.rd (.inr ⟨_, rfl⟩) h, rfl, hb, rfl⟩, find_t t⟩
theorem oB_ok {o : Option Bool} (h : PostD g ρ F m H (oB o m) Q E) (M : MRel g ρ F m H) : ∃ b, o = some b ∧ Q (.bl b) H := by
  cases o with
  | none => exact h.elim
  | some b => exact ⟨b, rfl, h.val M (RP.bl b)⟩
theorem eqP_ok {x y : P} {b : Bool} (e : eqP x y = some b) : (∃ z w, x = .str z ∧ y = .str w ∧ b = decide (z = w)) ∨ (x.shp = true ∧ y.shp = true ∧ b = PyData.eqv x.py y.py) := by
  unfold eqP at e
  split at e
  · cases e
    exact .inl ⟨_, _, rfl, rfl, rfl⟩
  · split at e
    · rename_i c
      obtain ⟨c1, c2⟩ := Bool.and_eq_true_iff.mp c
      cases e
      exact .inr ⟨c1, c2, rfl⟩
    · cases e
/-- in, by the answer -/
theorem in_run (hK : X.K = g.K) (hu : X.A.units + 65 < cLine) (neg : Bool) {pins : List (Addr × Obj)} {s : Shared} {σ : L2.St} {x y : P} {a b : V} {v u : Value} {c : Bool} (I : Inv X pins σ H s) (ra : RelV a v) (rb : RelV b u) (rx : RP g H x a) (ry : RP g H y b)
    (e : inP x y = some c) (q : Q (.bl (if neg then !c else c)) H) : wpAny (model X.prog X.w) X.A (compareOp (if neg then .NotIn else .In) v u) (EP X pins σ Q) X.xe s := by
  cases y with
  | str w =>
    cases x with
    | str z =>
      cases rx; cases ry
      cases e
      by_cases h1 : ∃ c, z.cps.toList = [c]
      · obtain ⟨cc, hc⟩ := h1
        have hq : hasS w z = decide (cc ∈ w.cps.toList) := by unfold hasS; rw [hc]
        have hz : z = ⟨#[cc]⟩ := by
          obtain ⟨arr⟩ := z
          rw [← Array.toList_inj.mp (show arr.toList = (#[cc] : Array Nat).toList from hc)]
        rw [hq] at q
        subst hz
        cases neg with
        | false => exact op_in_sign pins s σ H _ _ v u Q I ra rb ⟨_, _, rfl, rfl, q⟩
        | true => exact op_notIn_sign pins s σ H _ _ v u Q I ra rb ⟨_, _, rfl, rfl, q⟩
      · have hq : hasS w z = !(Builtin.Str.occurrences w z 0 w.length 1).isEmpty := by
          unfold hasS
          split
          · rename_i c hc; exact absurd ⟨c, hc⟩ h1
          · rfl
        rw [hq] at q
        cases neg with
        | false => exact op_in_str pins s σ H _ _ v u Q I ra rb ⟨_, _, rfl, rfl, q⟩
        | true => exact op_notIn_str pins s σ H _ _ v u Q I ra rb ⟨_, _, rfl, rfl, q⟩
    | _ => cases e
  | lst l =>
    have e : (if x.shp && (P.lst l).shp then some (l.any fun z => PyData.eqv z.py x.py) else none) = some c := e
    split at e
    · rename_i c'
      obtain ⟨c1, c2⟩ := Bool.and_eq_true_iff.mp c'
      cases e
      have d1 : Dp X.K H a x.py := by rw [hK]; exact RP.dp (shp_dat c1) rx
      have d2 : Dp X.K H b (.list (pyL l)) := by rw [hK]; exact RP.dp (x := .lst l) (shp_dat c2) ry
      have ea : ((pyL l).any fun z => PyData.eqv z x.py) = l.any fun z => PyData.eqv z.py x.py := by rw [pyL_map, List.any_map]; rfl
      cases neg with
      | false => exact op_inD hu pins s σ H _ _ v u Q I ra rb ⟨_, _, d1, d2, shp_sh c1, shp_sh (x := .lst l) c2, by rw [ea]; exact q⟩
      | true => exact op_notInD hu pins s σ H _ _ v u Q I ra rb ⟨_, _, d1, d2, shp_sh c1, shp_sh (x := .lst l) c2, by rw [ea]; exact q⟩
    · cases e
  | tup l =>
    have e : (if flatP x && l.all flatP then some (l.any fun z => PyData.eqv z.py x.py) else none) = some c := e
    split at e
    · rename_i c'
      obtain ⟨c1, c2⟩ := Bool.and_eq_true_iff.mp c'
      cases e
      cases ry with
      | tup h t =>
        have ei := inV_ok rx c1 t c2
        cases neg with
        | false => exact op_in_seq pins s σ H _ _ v u Q I ra rb ⟨_, _, rfl, .inr (SqT.of h), flat_ok rx c1, flats_ok t c2, by rw [ei]; exact q⟩
        | true => exact op_notIn_seq pins s σ H _ _ v u Q I ra rb ⟨_, _, rfl, .inr (SqT.of h), flat_ok rx c1, flats_ok t c2, by rw [ei]; exact q⟩
    · cases e
  | ktp l =>
    have e : (if flatP x && l.all flatP then some (l.any fun z => PyData.eqv z.py x.py) else none) = some c := e
    split at e
    · rename_i c'
      obtain ⟨c1, c2⟩ := Bool.and_eq_true_iff.mp c'
      cases e
      cases ry with
      | ktp h t =>
        have ei := inV_ok rx c1 t c2
        cases neg with
        | false => exact op_in_seq pins s σ H _ _ v u Q I ra rb ⟨_, _, rfl, .inr (by rw [hK]; exact h H), flat_ok rx c1, flats_ok t c2, by rw [ei]; exact q⟩
        | true => exact op_notIn_seq pins s σ H _ _ v u Q I ra rb ⟨_, _, rfl, .inr (by rw [hK]; exact h H), flat_ok rx c1, flats_ok t c2, by rw [ei]; exact q⟩
    · cases e
  | dct t l =>
    obtain ⟨o, e1, e2⟩ := Option.map_eq_some_iff.mp (show (dget t l x).map (·.isSome) = some c from e)
    obtain ⟨p, w, rfl, dg, hw⟩ := dget_ok (Sub.of fun _ _ h => h) e1 ry rx
    have ew : w.isSome = c := by
      rw [← e2]
      cases o with
      | none => rw [show w = none from hw]; rfl
      | some x => obtain ⟨z, hz, _⟩ := hw; rw [hz]; rfl
    cases (show u = Value.ref p from rb)
    cases neg with
    | false => exact d_in (by omega) I dg ra fun s3 I3 => ⟨.bl w.isSome, H, I3, rfl, by rw [ew]; exact q⟩
    | true => exact d_notIn (by omega) I dg ra fun s3 I3 => ⟨.bl (!w.isSome), H, I3, rfl, by rw [ew]; exact q⟩
  | _ => cases e

theorem cmpB_ok {f : P → P → Option Bool} {d e : D} {x y : V} (M : MRel g ρ F m H) (hd : RD g ρ F m.length d x) (he : RD g ρ F m.length e y) (h : PostD g ρ F m H (cmpB f d e m) Q E) :
    ∃ a b c, RP g H a x ∧ RP g H b y ∧ f a b = some c ∧ Q (.bl c) H := by
  unfold cmpB at h
  split at h
  · rename_i a b e1 e2
    obtain ⟨c, ec, q⟩ := oB_ok h M
    exact ⟨a, b, c, rdP_ok M e1 hd, rdP_ok M e2 he, ec, q⟩
  · exact h.elim
theorem cmp_ok (hK : X.K = g.K) (hu : X.A.units + 65 < cLine) (o : COp) : OpR X (compareOp (cO o)) (rd2 g (cmpS o)) := by
  rintro pins s σ H x y v u Q I rx ry ⟨d, e, m, ρ, F, E, M, hd, he, h⟩
  cases o with
  | isn =>
    have h : PostD g ρ F m H (if isN e then .ok (.p (.bl (isN d))) m else .no) Q E := h
    split at h
    · rename_i c
      exact op_isN pins s σ H _ _ v u Q I rx ry ⟨isN_v he c, by rw [← isN_ok hd]; exact h.val M (RP.bl _)⟩
    · exact h.elim
  | notn =>
    have h : PostD g ρ F m H (if isN e then .ok (.p (.bl (!isN d))) m else .no) Q E := h
    split at h
    · rename_i c
      exact op_notN pins s σ H _ _ v u Q I rx ry ⟨isN_v he c, by rw [← isN_ok hd]; exact h.val M (RP.bl _)⟩
    · exact h.elim
  | eq =>
    obtain ⟨a, b, c, r1, r2, ec, q⟩ := cmpB_ok M hd he h
    rcases eqP_ok ec with ⟨z, z', rfl, rfl, rfl⟩ | ⟨s1, s2, rfl⟩
    · cases r1; cases r2
      exact op_eq pins s σ H _ _ v u Q I rx ry ⟨rfl, by simpa using q⟩
    exact op_eqD (by omega) pins s σ H _ _ v u Q I rx ry ⟨_, _, by rw [hK]; exact RP.dp (shp_dat s1) r1, by rw [hK]; exact RP.dp (shp_dat s2) r2, shp_sh s1, shp_sh s2, q⟩
  | ne =>
    obtain ⟨a, b, c, r1, r2, ec, q⟩ := cmpB_ok M hd he h
    obtain ⟨c', ec', rfl⟩ := Option.map_eq_some_iff.mp ec
    rcases eqP_ok ec' with ⟨z, z', rfl, rfl, rfl⟩ | ⟨s1, s2, rfl⟩
    · cases r1; cases r2
      exact op_ne pins s σ H _ _ v u Q I rx ry ⟨rfl, by simpa using q⟩
    exact op_neD (by omega) pins s σ H _ _ v u Q I rx ry ⟨_, _, by rw [hK]; exact RP.dp (shp_dat s1) r1, by rw [hK]; exact RP.dp (shp_dat s2) r2, shp_sh s1, shp_sh s2, q⟩
  | lt =>
    obtain ⟨a, b, c, r1, r2, ec, q⟩ := cmpB_ok M hd he h
    unfold ltP at ec
    split at ec
    · cases r1; cases r2; cases ec
      exact op_lt pins s σ H _ _ v u Q I rx ry ⟨_, _, rfl, rfl, q⟩
    · cases r1; cases r2; cases ec
      exact op_lt_str pins s σ H _ _ v u Q I rx ry ⟨_, _, rfl, rfl, q⟩
    · cases ec
  | gt =>
    obtain ⟨a, b, c, r1, r2, ec, q⟩ := cmpB_ok M hd he h
    unfold ltP at ec
    split at ec
    · cases r1; cases r2; cases ec
      exact op_gt pins s σ H _ _ v u Q I rx ry ⟨_, _, rfl, rfl, q⟩
    · cases r1; cases r2; cases ec
      exact op_gt_str pins s σ H _ _ v u Q I rx ry ⟨_, _, rfl, rfl, q⟩
    · cases ec
  | le =>
    obtain ⟨a, b, c, r1, r2, ec, q⟩ := cmpB_ok M hd he h
    unfold leP at ec
    split at ec
    · cases r1; cases r2; cases ec
      exact op_le pins s σ H _ _ v u Q I rx ry ⟨_, _, rfl, rfl, q⟩
    · cases ec
  | ge =>
    obtain ⟨a, b, c, r1, r2, ec, q⟩ := cmpB_ok M hd he h
    unfold leP at ec
    split at ec
    · cases r1; cases r2; cases ec
      exact op_ge pins s σ H _ _ v u Q I rx ry ⟨_, _, rfl, rfl, q⟩
    · cases ec
  | inn =>
    obtain ⟨a, b, c, r1, r2, ec, q⟩ := cmpB_ok M hd he h
    exact in_run hK hu false I rx ry r1 r2 ec q
  | nin =>
    obtain ⟨a, b, c, r1, r2, ec, q⟩ := cmpB_ok M hd he h
    obtain ⟨c', ec', rfl⟩ := Option.map_eq_some_iff.mp ec
    exact in_run hK hu true I rx ry r1 r2 ec' q
end
end Dn

/-! Dn, part F: kinds, subscripts, calls of built-ins, by values. -/
namespace Dn
open PySem PySem.Spec PyProof.Rows L2

def tyV (g : Gn) : Ty → V
  | .own c => .ref (g.cA c)
  | t => .ty (tyS t)
def tyU (g : Gn) : Ty → Value
  | .own c => .ref (g.cA c)
  | t => .type (tyS t)
/-- what the kinds of built-in values are called -/
def bts : List String := ["NoneType", "bool", "int", "str", "list", "tuple", "dict"]
/-- what is known of the classes of the text -/
structure Kf (g : Gn) : Prop where
  cls : ∀ c, g.cs c = true → Cls g.K (g.cA c)
  co : ∀ c, g.cs c = true → PySem.W.findIn g.K (.ref (g.cA c)) "__class__" = some (some (.builtin "object.__class__"))
  cg : ∀ c, g.cs c = true → PySem.W.specialIn g.K (.builtin "object.__class__") "__get__" = some (some (.builtin "getset_descriptor.__get__"))
  ct : ∀ c, g.cs c = true → PySem.W.takesIn g.K (.builtin "object.__class__") = some true
  cm : ∀ c, g.cs c = true → PySem.W.mroIn g.K (g.cA c) (.type "object") = some true
  k1 : ∀ c, g.cs c = true → ∀ t ∈ bts, PySem.W.kitOne g.K (.type t) (.ref (g.cA c)) = some false
  k2 : ∀ c d, g.cs c = true → g.cs d = true → PySem.W.kitOne g.K (.ref (g.cA d)) (.ref (g.cA c)) = some (decide (c = d))
  k3 : ∀ c, g.cs c = true → ∀ t ∈ bts, PySem.W.kitOne g.K (.ref (g.cA c)) (.type t) = some false
section
variable {X : Cx} {g : Gn} {ρ : Rho} {F H : Hp} {m : Mem} {Q : VK} {E : XK}
def kindU (g : Gn) : Nat ⊕ String → Value
  | .inl c => .ref (g.cA c)
  | .inr s => .type s
theorem kind_ok (hk : Kf g) (M : MRel g ρ F m H) {d : D} {v : V} {k : Nat ⊕ String} (r : RD g ρ F m.length d v) (e : kindS d m = some k) : TyX g.K H v (kindU g k) ∧ (∀ c, k = .inl c → g.cs c = true) ∧ ∀ s, k = .inr s → s ∈ bts := by
  cases d with
  | p x =>
    have r := RP.up M.sub (show RP g F x v from r)
    cases r with
    | non => cases e; exact ⟨.base .non, (fun _ z => by cases z), fun s z => by cases z; decide⟩
    | bl b => cases e; exact ⟨.base (.bl b), (fun _ z => by cases z), fun s z => by cases z; decide⟩
    | int i => cases e; exact ⟨.base (.int i), (fun _ z => by cases z), fun s z => by cases z; decide⟩
    | str z => cases e; exact ⟨.base (.str z), (fun _ z => by cases z), fun s z => by cases z; decide⟩
    | tup h t => cases e; exact ⟨.base (.tup h), (fun _ z => by cases z), fun s z => by cases z; decide⟩
    | lst h t => cases e; exact ⟨.base (.lst h), (fun _ z => by cases z), fun s z => by cases z; decide⟩
    | dK h t =>
      cases e
      refine ⟨?_, (fun _ z => by cases z), fun s z => by cases z; decide⟩
      rcases h with h | ⟨o, h⟩
      · exact .base (.dK h)
      · exact .fDict h
    | dT h t => cases e
    | ins z h t => cases e; exact ⟨.base (.ins h (hk.cls _ z) (hk.co _ z) (hk.cg _ z) (hk.ct _ z) (hk.cm _ z)), (fun c q => by cases q; exact z), (fun s z => by cases z)⟩
    | ktp h t => cases e
    | scr h => cases e
  | ref n =>
    have e' : (match m.get n with | some (.lst _) => some (Sum.inr "list") | some (.dct _) => some (.inr "dict") | some (.dcT _) => some (.inr "dict") | some (.ins k _) => some (.inl k) | _ => none) = some k := e
    cases q : m.get n with
    | none => rw [q] at e'; cases e'
    | some o =>
      rw [q] at e'
      obtain ⟨ho, rfl, h1, h2⟩ := M.look q r
      cases o with
      | lst l =>
        cases e'
        obtain ⟨vs, rfl, _⟩ := rmo_lst h2
        exact ⟨.base (.lst h1), (fun _ z => by cases z), fun s z => by cases z; decide⟩
      | dct l =>
        cases e'
        obtain ⟨vs, rfl, _⟩ := rmo_dct h2
        exact ⟨.base (.dK h1), (fun _ z => by cases z), fun s z => by cases z; decide⟩
      | dcT l =>
        cases e'
        obtain ⟨vs, rfl, _⟩ := rmo_dcT h2
        exact ⟨.base (.dT h1), (fun _ z => by cases z), fun s z => by cases z; decide⟩
      | ins c l =>
        cases e'
        obtain ⟨dx, fs, rfl, z, _⟩ := rmo_ins h2
        exact ⟨.base (.ins h1 (hk.cls _ z) (hk.co _ z) (hk.cg _ z) (hk.ct _ z) (hk.cm _ z)), (fun c q => by cases q; exact z), (fun s z => by cases z)⟩
      | scr l => cases e'
def tyOk (g : Gn) : Ty → Bool
  | .own c => g.cs c
  | _ => true
theorem isTy_kind {c : Ty} {d : D} {m : Mem} {b : Bool} (e : isTy c d m = some b) : ∃ k, kindS d m = some k ∧ b = isK c k := by
  obtain ⟨k, e1, e2⟩ := Option.map_eq_some_iff.mp (show (kindS d m).map (isK c) = some b from e)
  exact ⟨k, e1, e2.symm⟩
theorem kit_bts : ∀ s ∈ bts, ∀ c ∈ [Ty.int, .bool, .str, .list, .tuple, .dict], kitB s (tyS c) = some (isK c (.inr s)) := by decide +kernel
theorem kit_ok (hk : Kf g) {c : Ty} (hc : tyOk g c = true) {k : Nat ⊕ String} (h1 : ∀ c, k = .inl c → g.cs c = true) (h2 : ∀ s, k = .inr s → s ∈ bts) : PySem.W.kitOne g.K (kindU g k) (tyU g c) = some (isK c k) := by
  cases k with
  | inl j =>
    have hj := h1 j rfl
    cases c with
    | own c => exact hk.k2 c j hc hj
    | int => exact hk.k3 j hj "int" (by decide)
    | bool => exact hk.k3 j hj "bool" (by decide)
    | str => exact hk.k3 j hj "str" (by decide)
    | list => exact hk.k3 j hj "list" (by decide)
    | tuple => exact hk.k3 j hj "tuple" (by decide)
    | dict => exact hk.k3 j hj "dict" (by decide)
  | inr s =>
    have hs := h2 s rfl
    cases c with
    | own c => exact hk.k1 c hc s hs
    | int => exact kit_ty (kit_bts s hs .int (by simp))
    | bool => exact kit_ty (kit_bts s hs .bool (by simp))
    | str => exact kit_ty (kit_bts s hs .str (by simp))
    | list => exact kit_ty (kit_bts s hs .list (by simp))
    | tuple => exact kit_ty (kit_bts s hs .tuple (by simp))
    | dict => exact kit_ty (kit_bts s hs .dict (by simp))
theorem isTys_ok (hk : Kf g) {l : List Ty} {d : D} {b : Bool} (hl : l.all (tyOk g) = true) (M : MRel g ρ F m H) {v : V} (r : RD g ρ F m.length d v) (e : isTys l d m = some b) {k : Nat ⊕ String} (ek : kindS d m = some k) : PySem.W.kitAny g.K (kindU g k) (l.map (tyU g)) = some b := by
  obtain ⟨_, h1, h2⟩ := kind_ok hk M r ek
  induction l with
  | nil => cases e; rfl
  | cons c l ih =>
    rw [List.all_cons, Bool.and_eq_true] at hl
    unfold isTys at e
    split at e
    · rename_i ec
      cases e
      obtain ⟨k', e1, e2⟩ := isTy_kind ec
      rw [ek] at e1; cases e1
      exact kitAny_cons (b := true) (by rw [kit_ok hk hl.1 h1 h2, ← e2]) (fun z => nomatch z) (fun _ => rfl)
    · rename_i ec
      obtain ⟨k', e1, e2⟩ := isTy_kind ec
      rw [ek] at e1; cases e1
      exact kitAny_cons (b := false) (by rw [kit_ok hk hl.1 h1 h2, ← e2]) (fun _ => ih hl.2 e) (fun z => nomatch z)
    · cases e
/-- the classes that isinstance is given -/
theorem tys_cls (l : List Ty) : Paired ClsV (l.map (tyV g)) (l.map (tyU g)) := by
  induction l with
  | nil => exact .nil
  | cons c l ih => exact .cons (by cases c <;> first | exact .ty _ | exact .own _) ih

/-! ### subscripts -/
def rIxD : R2 := fun x y H Q => ∃ a v, x = .ref a ∧ DGet H a y (some v) ∧ Q v H
theorem ix_dict (hu : X.A.units + 1 < cLine) : IxR X rIxD := by
  rintro value slice pins s σ H x y v u Q I rx ry ⟨a, z, rfl, dg, q⟩ hs
  cases (show v = Value.ref a from rx)
  have hT := dict_typeIs I dg
  unfold subscriptTail
  refine wpAny_bind ?_
  rw [getitemInPython_of_ne hT.not_modules]
  refine wpAny_bind (wpAny_specialOf hT PySem.F.slot_dict_getitem.lookup ?_)
  have fin : wpAny (model X.prog X.w) X.A (subscripted slice false (.ref a) u) (fun r s₃ => wpAny (model X.prog X.w) X.A (letTemporaryGo value (.ref a) r >>= fun _ => pure r) (EP X pins σ Q) X.xe s₃) X.xe s := by
    rw [hs]
    exact wpAny_operating (wpAny_mono (d_getItem (Q := fun r s3 => EP X pins σ Q r s3) hu I dg ry fun w' s' I' rw' => ⟨z, H, I', rw', q⟩) (fun r s₃ h₃ => wpAny_bind (wpAny_letTemporaryGo (wpAny_pure h₃))) fun _ _ x => x)
  first
    | exact wpAny_pure (wpAny_bind fin)
    | exact wpAny_bind (wpAny_pure (wpAny_bind fin))
    | exact wpAny_bind fin
theorem ixN_lt {n : Nat} {i : Int} {j : Nat} (h : ixN n i = some j) : j < n := (ixN_seq h).2.1
theorem atI_rel {k : Nat} {l : List D} {vs : List V} (r : RDs g ρ F k l vs) {i : Int} {d : D} (e : atI l i = some d) : ∃ v, atI vs i = some v ∧ RD g ρ F k d v := by
  unfold atI at e ⊢
  rw [← r.length]
  cases h : ixN l.length i with
  | none => rw [h] at e; cases e
  | some j =>
    rw [h] at e
    exact r.get (i := j) e
theorem ix_ok (hK : X.K = g.K) (hu : X.A.units + 65 < cLine) : IxR X (rd2 g ixS) := by
  rintro value slice pins s σ H x y v u Q I rx ry ⟨d, e, m, ρ, F, E, M, hd, he, h⟩ hs
  unfold ixS at h
  split at h
  · cases hd; cases he
    split at h
    · rename_i hz
      split at h
      · rename_i c hc
        exact ix_str value slice pins s σ H _ _ v u Q I rx ry ⟨_, _, c, rfl, rfl, hz, hc, h.val M (RP.str _)⟩ hs
      · exact h.elim
    · exact h.elim
  · split at h
    · rename_i x ex
      obtain ⟨a, w, rfl, dg, hw⟩ := dget_ok M.sub ex hd (RP.up M.sub he)
      obtain ⟨z, hz, rz⟩ := hw
      subst hz
      exact ix_dict (by omega) value slice pins s σ H _ _ v u Q I rx ry ⟨a, z, rfl, dg, h.val M rz⟩ hs
    · exact h.elim
  · cases he
    split at h
    · rename_i l el
      obtain ⟨a, vs, rfl, r, q⟩ := seqD_ok M el hd
      split at h
      · rename_i d' ed
        obtain ⟨z, hz, rz⟩ := atI_rel r ed
        have qq := h.val M rz
        rcases q with ⟨k, _⟩ | ⟨k, _⟩
        · exact ix_list value slice pins s σ H _ _ v u Q I rx ry ⟨a, vs, _, z, rfl, rfl, SqL.of k, hz, qq⟩ hs
        · exact ix_tup value slice pins s σ H _ _ v u Q I rx ry ⟨a, vs, _, z, rfl, rfl, by rw [hK]; exact k, hz, qq⟩ hs
      · exact h.elim
    · exact h.elim
  · exact h.elim
end
end Dn

/-! Dn, part G: slices, built-in functions, methods, by values. -/
namespace Dn
open PySem PySem.Spec PyProof.Rows L2
section
variable {X : Cx} {g : Gn} {ρ : Rho} {F H : Hp} {m : Mem} {Q : VK} {E : XK}
def rdSl (g : Gn) : V → Option Int → Option Int → Hp → VK → Prop := fun x lo hi H Q => ∃ d m ρ F E, MRel g ρ F m H ∧ RD g ρ F m.length d x ∧ PostD g ρ F m H (slS d lo hi m) Q E
theorem cut_rp {l : List P} {vs : List V} (r : RPs g F l vs) (lo hi : Option Int) : RPs g F (cutD l lo hi) (cutV vs lo hi) := by
  unfold cutD cutV
  rw [← r.length]
  exact RPs.take _ (RPs.drop _ r)
theorem cut_rd {k : Nat} {l : List D} {vs : List V} (r : RDs g ρ F k l vs) (lo hi : Option Int) : RDs g ρ F k (cutD l lo hi) (cutV vs lo hi) := by
  unfold cutD cutV
  rw [← r.length]
  exact RDs.take _ (RDs.drop _ r)
theorem cut_ints (ns : List Int) (lo hi : Option Int) : cutV (ns.map V.int) lo hi = (cutD ns lo hi).map V.int := by
  unfold cutD cutV
  rw [List.length_map, List.map_take, List.map_drop]
theorem sl_ok (hK : X.K = g.K) : SlR X (rdSl g) := by
  rintro pins s σ H x v vl vu lo hi sl Q I rx hs pl pu ⟨d, m, ρ, F, E, M, hd, h⟩
  unfold slS at h
  split at h
  · cases hd
    split at h
    · rename_i hz
      exact sl_str pins s σ H _ v vl vu lo hi sl Q I rx hs pl pu ⟨_, rfl, hz, h.val M (RP.str _)⟩
    · exact h.elim
  · cases hd with
    | lst h1 t => exact sl_list pins s σ H _ v vl vu lo hi sl Q I rx hs pl pu ⟨_, _, rfl, SqL.of (M.sub.lst h1), fun p hp => h.newLst M (cut_rp t lo hi) hp⟩
  · cases hd with
    | scr h1 =>
      refine sl_list pins s σ H _ v vl vu lo hi sl Q I rx hs pl pu ⟨_, _, rfl, by rw [hK]; exact M.sub.seq h1, fun p hp => ?_⟩
      rw [cut_ints]
      exact h.newLst M (RPs.ofInts _) hp
  · cases hd with
    | tup h1 t =>
      split at h
      · exact h.elim
      · rename_i c
        exact sl_tup pins s σ H _ v vl vu lo hi sl Q I rx hs pl pu ⟨_, _, rfl, SqT.of (M.sub.tup h1), by rw [← t.length]; exact c, fun p hp => h.newTup M (cut_rp t lo hi) hp⟩
  · split at h
    · rename_i l e
      obtain ⟨ho, rfl, h1, h2⟩ := M.look e hd
      obtain ⟨vs, rfl, h3⟩ := rmo_lst h2
      refine sl_list pins s σ H _ v vl vu lo hi sl Q I rx hs pl pu ⟨_, _, rfl, SqL.of h1, fun p hp => ?_⟩
      split at h
      · rename_i ps ep
        rw [allP_eq ep] at h3
        exact h.newLst M (cut_rp (RPs.of h3) lo hi) hp
      · exact h.newL M (cut_rd h3 lo hi) hp
    · exact h.elim
  · exact h.elim
theorem onL_ok {α : Type} {f : List P → Option α} {k : α → P} {d : D} {v : V} (M : MRel g ρ F m H) (hd : RD g ρ F m.length d v) (h : PostD g ρ F m H (onL f k d m) Q E) :
    ∃ a vs l x, v = .ref a ∧ H a = some (.lst vs) ∧ RPs g H l vs ∧ f l = some x ∧ PostD g ρ F m H (.ok (.p (k x)) m) Q E := by
  unfold onL at h
  split at h
  · rename_i l e
    have r := rdP_ok M e hd
    cases r with
    | lst h1 t =>
      split at h
      · rename_i x ex
        exact ⟨_, _, l, x, rfl, h1, t, ex, h⟩
      · exact h.elim
  · exact h.elim
theorem len_ok (hK : X.K = g.K) : CallR X (.builtin "len") (rdN g (bclS .len)) := by
  rintro pins s σ H xs us Q I r ⟨ds, m, ρ, F, E, M, rs, h⟩
  match ds, xs, rs with
  | [], _, _ => exact h.elim
  | [d], [x], rs =>
    have hd := rs.1
    have h : PostD g ρ F m H (lenS d m) Q E := h
    unfold lenS at h
    split at h
    · cases hd
      split at h
      · rename_i hz
        exact call_len_str pins s σ H _ us Q I r ⟨_, rfl, hz, h.val M (RP.int _)⟩
      · exact h.elim
    · cases hd with
      | dK h1 t =>
        obtain ⟨u, rfl, ru⟩ := vals1 r
        cases ru
        have hl : ∀ {l : List (P × P)} {kvs : List (Key × V)}, RPk g F l kvs → l.length = kvs.length := by
          intro l kvs z
          induction l generalizing kvs with
          | nil => cases z; rfl
          | cons a l ih => cases z with | cons _ _ z => exact congrArg Nat.succ (ih z)
        rw [hl t] at h
        exact d_len I (M.sub.rd (.inl ⟨_, rfl⟩) h1) fun t s' I' => ⟨.int _, H, I', ⟨t, rfl⟩, h.val M (RP.int _)⟩
    · split at h
      · rename_i l e
        obtain ⟨a, vs, rfl, r1, q⟩ := seqD_ok M e hd
        have qq := h.val M (RP.int _)
        rw [r1.length] at qq
        rcases q with ⟨k, _⟩ | ⟨k, _⟩
        · exact call_len_seq pins s σ H _ us Q I r ⟨a, vs, rfl, .inl (SqL.of k), qq⟩
        · exact call_len_seq pins s σ H _ us Q I r ⟨a, vs, rfl, .inr (by rw [hK]; exact k), qq⟩
      · exact h.elim
  | _ :: _ :: _, _, _ => exact h.elim
theorem int_ok : CallR X (.type "int") (rdN g (bclS .int)) := by
  rintro pins s σ H xs us Q I r ⟨ds, m, ρ, F, E, M, rs, h⟩
  match ds, xs, rs with
  | [], _, _ => exact h.elim
  | [d], [x], rs =>
    have hd := rs.1
    have h : PostD g ρ F m H (intS d m) Q E := h
    unfold intS at h
    split at h
    · cases hd
      exact call_int1 pins s σ H _ us Q I r (.inl ⟨_, rfl, h.val M (RP.int _)⟩)
    · cases hd
      exact call_int1 pins s σ H _ us Q I r (.inr ⟨_, rfl, h.val M (RP.int _)⟩)
    · cases hd
      split at h
      · rename_i n e
        split at h
        · rename_i hz
          exact call_int_str pins s σ H _ us Q I r ⟨_, n, rfl, e, hz, h.val M (RP.int _)⟩
        · exact h.elim
      · exact h.elim
    · exact h.elim
  | _ :: _ :: _, _, _ => exact h.elim
theorem abs_ok : CallR X (.builtin "abs") (rdN g (bclS .abs)) := by
  rintro pins s σ H xs us Q I r ⟨ds, m, ρ, F, E, M, rs, h⟩
  match ds, xs, rs with
  | [], _, _ => exact h.elim
  | [d], [x], rs =>
    have hd := rs.1
    have h : PostD g ρ F m H (absS d m) Q E := h
    unfold absS at h
    split at h
    · cases hd
      exact call_abs pins s σ H _ us Q I r ⟨_, rfl, h.val M (RP.int _)⟩
    · exact h.elim
  | _ :: _ :: _, _, _ => exact h.elim
theorem list_ok (hK : X.K = g.K) : CallR X (.type "list") (rdN g (bclS .list)) := by
  rintro pins s σ H xs us Q I r ⟨ds, m, ρ, F, E, M, rs, h⟩
  match ds, xs, rs with
  | [], _, _ => exact h.elim
  | [d], [x], rs =>
    have hd := rs.1
    have h : PostD g ρ F m H (listS d m) Q E := h
    unfold listS at h
    split at h
    · rename_i l e
      obtain ⟨a, vs, rfl, r1, q⟩ := seqD_ok M e hd
      obtain ⟨_, z⟩ := mkL_post h M r1
      rcases q with ⟨k, _⟩ | ⟨k, _⟩
      · exact call_list_of pins s σ H _ us Q I r ⟨a, vs, rfl, .inl (SqL.of k), z⟩
      · exact call_list_of pins s σ H _ us Q I r ⟨a, vs, rfl, .inr (by rw [hK]; exact k), z⟩
    · exact h.elim
  | _ :: _ :: _, _, _ => exact h.elim
theorem tuple_ok (hK : X.K = g.K) : CallR X (.type "tuple") (rdN g (bclS .tuple)) := by
  rintro pins s σ H xs us Q I r ⟨ds, m, ρ, F, E, M, rs, h⟩
  match ds, xs, rs with
  | [], _, _ => exact h.elim
  | [d], [x], rs =>
    have hd := rs.1
    have h : PostD g ρ F m H (tupleS d m) Q E := h
    unfold tupleS at h
    split at h
    · rename_i it
      cases d with
      | p y => cases y with
        | tup l =>
          have qq := h.val M hd
          cases hd with
          | tup h1 t => exact call_tuple_of pins s σ H _ us Q I r ⟨_, _, rfl, .inr ⟨SqT.of (M.sub.tup h1), qq⟩⟩
        | ktp l =>
          have qq := h.val M hd
          cases hd with
          | ktp h1 t => exact call_tuple_of pins s σ H _ us Q I r ⟨_, _, rfl, .inr ⟨by rw [hK]; exact h1 H, qq⟩⟩
        | _ => cases it
      | ref n => cases it
    · rename_i it
      split at h
      · rename_i l e
        obtain ⟨a, vs, rfl, r1, q⟩ := seqD_ok M e hd
        obtain ⟨_, z⟩ := mkT_post h M r1
        rcases q with ⟨k, _⟩ | ⟨_, ps, k⟩
        · exact call_tuple_of pins s σ H _ us Q I r ⟨a, vs, rfl, .inl ⟨SqL.of k, z⟩⟩
        · rcases k with k | k <;> (subst k; exact absurd rfl it)
      · exact h.elim
  | _ :: _ :: _, _, _ => exact h.elim
theorem all_ok (hc : X.calm = true) : CallR X (.builtin "all") (rdN g (bclS .all)) := by
  rintro pins s σ H xs us Q I r ⟨ds, m, ρ, F, E, M, rs, h⟩
  match ds, xs, rs with
  | [], _, _ => exact h.elim
  | [d], [x], rs =>
    obtain ⟨a, vs, l, bs, rfl, h1, t, ef, h⟩ := onL_ok M rs.1 (show PostD g ρ F m H (onL blsP (fun bs => .bl (bs.all id)) d m) Q E from h)
    rw [blsP_eq ef] at t
    rw [t.bls] at h1
    exact cr_all hc pins s σ H _ us Q I r ⟨a, bs, rfl, SqL.of h1, h.val M (RP.bl _)⟩
  | _ :: _ :: _, _, _ => exact h.elim
theorem any_ok (hc : X.calm = true) : CallR X (.builtin "any") (rdN g (bclS .any)) := by
  rintro pins s σ H xs us Q I r ⟨ds, m, ρ, F, E, M, rs, h⟩
  match ds, xs, rs with
  | [], _, _ => exact h.elim
  | [d], [x], rs =>
    obtain ⟨a, vs, l, bs, rfl, h1, t, ef, h⟩ := onL_ok M rs.1 (show PostD g ρ F m H (onL blsP (fun bs => .bl (bs.any id)) d m) Q E from h)
    rw [blsP_eq ef] at t
    rw [t.bls] at h1
    exact cr_any hc pins s σ H _ us Q I r ⟨a, bs, rfl, SqL.of h1, h.val M (RP.bl _)⟩
  | _ :: _ :: _, _, _ => exact h.elim
theorem sum_ok (hc : X.calm = true) : CallR X (.builtin "sum") (rdN g (bclS .sum)) := by
  rintro pins s σ H xs us Q I r ⟨ds, m, ρ, F, E, M, rs, h⟩
  match ds, xs, rs with
  | [], _, _ => exact h.elim
  | [d], [x], rs =>
    obtain ⟨a, vs, l, bs, rfl, h1, t, ef, h⟩ := onL_ok M rs.1 (show PostD g ρ F m H (onL intsP (fun ns => .int ns.sum) d m) Q E from h)
    rw [intsP_eq ef] at t
    rw [t.ints] at h1
    exact cr_sum hc pins s σ H _ us Q I r ⟨a, bs, rfl, SqL.of h1, h.val M (RP.int _)⟩
  | _ :: _ :: _, _, _ => exact h.elim
theorem str_ok : CallR X (.type "str") (rdN g (bclS .str)) := by
  rintro pins s σ H xs us Q I r ⟨ds, m, ρ, F, E, M, rs, h⟩
  match ds, xs, rs with
  | [], _, _ => exact h.elim
  | [d], [x], rs =>
    have hd := rs.1
    have h : PostD g ρ F m H (strS d m) Q E := h
    unfold strS at h
    split at h
    · cases hd
      split at h
      · rename_i hz
        exact call_str_int pins s σ H _ us Q I r ⟨_, rfl, hz, h.val M (RP.str _)⟩
      · exact h.elim
    · exact h.elim
  | _ :: _ :: _, _, _ => exact h.elim
/-- a built-in function's name; is it a class -/
def bfN : BF → String
  | .len => "len" | .int => "int" | .abs => "abs" | .list => "list" | .tuple => "tuple" | .all => "all" | .any => "any" | .sum => "sum" | .str => "str"
def bfT : BF → Bool
  | .int => true | .list => true | .tuple => true | .str => true | _ => false
def bfV (f : BF) : Value := if bfT f then .type (bfN f) else .builtin (bfN f)
theorem bcl_ok (hK : X.K = g.K) (hc : X.calm = true) (f : BF) : CallR X (bfV f) (rdN g (bclS f)) := by
  cases f with
  | len => exact len_ok hK
  | int => exact int_ok
  | abs => exact abs_ok
  | list => exact list_ok hK
  | tuple => exact tuple_ok hK
  | all => exact all_ok hc
  | any => exact any_ok hc
  | sum => exact sum_ok hc
  | str => exact str_ok

/-! ### methods -/
theorem seqP_ok (M : MRel g ρ F m H) {d : D} {l : List P} {v : V} (e : seqP m d = some l) (r : RD g ρ F m.length d v) : ∃ a vs, v = .ref a ∧ RPs g F l vs ∧ (H a = some (.lst vs) ∨ SqT g.K H a vs) := by
  unfold seqP at e
  split at e
  · rename_i ds es
    obtain ⟨a, vs, rfl, r1, q⟩ := seqD_ok M es r
    rw [allP_eq e] at r1
    exact ⟨a, vs, rfl, RPs.of r1, q.imp (·.1) (·.1)⟩
  · cases e
theorem join_ok (hK : X.K = g.K) : MtR X "str.join" (rdM g (bmtS .join)) := by
  rintro pins s σ H x xs v us Q I rx rs ⟨d, ds, m, ρ, F, E, M, hd, hs, h⟩
  have h : PostD g ρ F m H (joinS d ds m) Q E := h
  unfold joinS at h
  split at h
  · rename_i z b
    cases hd
    match xs, hs with
    | [y], hs =>
      split at h
      · rename_i ss es
        split at h
        · rename_i hz
          obtain ⟨l, e1, e2⟩ := Option.bind_eq_some_iff.mp es
          obtain ⟨a, vs, rfl, r1, q⟩ := seqP_ok M e1 hs.1
          rw [strsP_eq e2] at r1
          rw [r1.strs] at q
          exact mt_join pins s σ H _ _ v us Q I rx rs ⟨_, a, ss, rfl, rfl, by rw [hK]; exact q.imp SqL.of (fun z => z), hz, h.val M (RP.str _)⟩
        · exact h.elim
      · exact h.elim
  · exact h.elim
theorem append_ok : MtR X "list.append" (rdM g (bmtS .append)) := by
  rintro pins s σ H x xs v us Q I rx rs ⟨d, ds, m, ρ, F, E, M, hd, hs, h⟩
  have h : PostD g ρ F m H (appendS d ds m) Q E := h
  cases d with
  | p y => exact h.elim
  | ref n =>
    match ds, xs, hs with
    | [], _, _ => exact h.elim
    | _ :: _ :: _, _, _ => exact h.elim
    | [y], [y'], hs =>
      unfold appendS at h
      simp only at h
      split at h
      · rename_i l e
        split at h
        · rename_i hz
          obtain ⟨ho, rfl, h1, h2⟩ := M.look e hd
          obtain ⟨vs, rfl, h3⟩ := rmo_lst h2
          obtain ⟨x1, M1⟩ := step_put (o' := .lst (l ++ [y])) (ho := .lst (vs ++ [y'])) M (get_some e) (h3.append ⟨hs.1, trivial⟩)
          exact mt_append pins s σ H _ _ v us Q I rx rs ⟨_, _, _, rfl, rfl, h1, by rw [← h3.length]; exact hz, h _ _ _ _ x1 M1 RP.non⟩
        · exact h.elim
      · exact h.elim
def rdI (g : Gn) : V → V → V → Hp → (Hp → Prop) → Prop := fun o i v H Q => ∃ d e y m ρ F E, MRel g ρ F m H ∧ RD g ρ F m.length d o ∧ RD g ρ F m.length e i ∧ RD g ρ F m.length y v ∧ Post g (fun _ _ _ (_ : Unit) (_ : Unit) => True) ρ F m H (isetS d e y m) (fun _ => Q) E
theorem iset_ok : PSet X (rdI g) := by
  rintro pins s σ H o i v ov iv u Q I ro ri rv ⟨d, e, y, m, ρ, F, E, M, hd, he, hy, h⟩
  unfold isetS at h
  split at h
  · rename_i n k
    cases he
    split at h
    · rename_i l el
      split at h
      · rename_i j ej
        obtain ⟨ho, rfl, h1, h2⟩ := M.look el hd
        obtain ⟨vs, rfl, h3⟩ := rmo_lst h2
        obtain ⟨x1, M1⟩ := step_put (o' := .lst (l.set j y)) (ho := .lst (vs.set j v)) M (get_some el) (h3.set hy j)
        exact set_list pins s σ H _ _ v ov iv u Q I ro ri rv ⟨_, _, _, j, rfl, rfl, h1, by rw [← h3.length]; exact ej, h () _ _ _ x1 M1 trivial⟩
      · exact h.elim
    · exact h.elim
  · exact h.elim
end
end Dn

/-! Dn, part H: the judgement, the check of expressions, the plain cases. -/
namespace Dn
open PySem PySem.Spec PyProof.Rows L2

/-! ### results in a row -/
theorem Post.bind {α β γ δ : Type} {g : Gn} {rel : Rho → Hp → Nat → α → γ → Prop} {rel2 : Rho → Hp → Nat → β → δ → Prop} {ρ : Rho} {F : Hp} {m : Mem} {H : Hp} {r : R α} {f : α → Mem → R β} {Q : δ → Hp → Prop} {Q1 : γ → Hp → Prop} {E : XK}
    (h : Post g rel2 ρ F m H (r.bind f) Q E)
    (k : ∀ d m' v H' ρ' F', Ext ρ F m H ρ' F' m' H' → MRel g ρ' F' m' H' → rel ρ' F' m'.length d v → Post g rel2 ρ' F' m' H' (f d m') Q E → Q1 v H') : Post g rel ρ F m H r Q1 E := by
  cases r with
  | ok d m' => exact fun v H' ρ' F' x M r => k d m' v H' ρ' F' x M r (Post.on x h)
  | ex x m' => exact h
  | no => exact h.elim
theorem Post.map {α γ δ : Type} {g : Gn} {rel : Rho → Hp → Nat → α → γ → Prop} {rel2 : Rho → Hp → Nat → α → δ → Prop} {ρ : Rho} {F : Hp} {m : Mem} {H : Hp} {r : R α} {Q : δ → Hp → Prop} {Q1 : γ → Hp → Prop} {E : XK}
    (h : Post g rel2 ρ F m H r Q E)
    (k : ∀ d m' v H' ρ' F', Ext ρ F m H ρ' F' m' H' → MRel g ρ' F' m' H' → rel ρ' F' m'.length d v → Post g rel2 ρ' F' m' H' (.ok d m') Q E → Q1 v H') : Post g rel ρ F m H r Q1 E := by
  cases r with
  | ok d m' => exact fun v H' ρ' F' x M r => k d m' v H' ρ' F' x M r (Post.on x h)
  | ex x m' => exact h
  | no => exact h.elim
theorem Post.imp {α γ : Type} {g : Gn} {rel : Rho → Hp → Nat → α → γ → Prop} {ρ : Rho} {F : Hp} {m : Mem} {H : Hp} {r : R α} {Q Q1 : γ → Hp → Prop} {E : XK} (h : Post g rel ρ F m H r Q E) (k : ∀ v H', Q v H' → Q1 v H') : Post g rel ρ F m H r Q1 E := by
  cases r with
  | ok d m' => exact fun v H' ρ' F' x M r => k _ _ (h v H' ρ' F' x M r)
  | ex x m' => exact h
  | no => exact h.elim
theorem _root_.L2.PE.imp {X : Cx} {e : Expr} {t t' : TE} (h : PE X e t) (k : ∀ σ H Q, t' σ H Q → t σ H Q) : PE X e t' := ⟨fun pins s σ H Q I q => h.run pins s σ H Q I (k σ H Q q)⟩
theorem _root_.L2.PT.imp {X : Cx} {e : Expr} {t t' : TT} (h : PT X e t) (k : ∀ σ H Q, t' σ H Q → t σ H Q) : PT X e t' := ⟨fun pins s σ H Q I q => h.run pins s σ H Q I (k σ H Q q)⟩
theorem _root_.L2.PA.imp {X : Cx} {e : List Expr} {t t' : TA} (h : PA X e t) (k : ∀ σ H Q, t' σ H Q → t σ H Q) : PA X e t' := ⟨fun pos pins s σ H Q I q => h.run pos pins s σ H Q I (k σ H Q q)⟩
theorem _root_.L2.PO.imp {X : Cx} {e : Option Expr} {t t' : L2.TO} (h : L2.PO X e t) (k : ∀ σ H Q, t' σ H Q → t σ H Q) : L2.PO X e t' := ⟨fun pins s σ H Q I q => h.run pins s σ H Q I (k σ H Q q)⟩
theorem _root_.L2.PI.imp {X : Cx} {tg iter : Expr} {t t' : TI} (h : PI X tg iter t) (k : ∀ σ H Q, t' σ H Q → t σ H Q) : PI X tg iter t' := ⟨fun pins s σ H Q I q => h.run pins s σ H Q I (k σ H Q q)⟩
theorem _root_.L2.PG.imp {X : Cx} {tg : Expr} {t t' : TG} (h : PG X tg t) (k : ∀ v σ H Q, t' v σ H Q → t v σ H Q) : PG X tg t' := ⟨fun pins s σ H v u Q I r q => h.run pins s σ H v u Q I r (k v σ H Q q)⟩
theorem _root_.L2.PGs.imp {X : Cx} {tg : List Expr} {t t' : TGs} (h : PGs X tg t) (k : ∀ v σ H Q, t' v σ H Q → t v σ H Q) : PGs X tg t' := ⟨fun pins s σ H v u Q I r q => h.run pins s σ H v u Q I r (k v σ H Q q)⟩
theorem _root_.L2.PS.imp {X : Cx} {e : Stmt} {t t' : TS} (h : PS X e t) (k : ∀ D σ H, t' D σ H → t D σ H) : PS X e t' := ⟨fun pins s σ H D I q => h.run pins s σ H D I (k D σ H q)⟩
theorem _root_.L2.PSs.imp {X : Cx} {e : List Stmt} {t t' : TS} (h : PSs X e t) (k : ∀ D σ H, t' D σ H → t D σ H) : PSs X e t' := ⟨fun pins s σ H D I q => h.run pins s σ H D I (k D σ H q)⟩

/-! ### readings -/
abbrev RB' : Rho → Hp → Nat → Bool → Bool → Prop := fun _ _ _ a b => b = a
abbrev RO' : Rho → Hp → Nat → Option Int → Option Int → Prop := fun _ _ _ a b => b = a
/-- a reading of slots and store, with what is wanted of an exception -/
def rdX {α β : Type} (g : Gn) (rel : Rho → Hp → Nat → α → β → Prop) (W : WX) (r : Sl → Mem → R α) : L2.St → Hp → (β → Hp → Prop) → Prop :=
  fun σ H Q => ∃ δ m ρ F, MRel g ρ F m H ∧ RSl g ρ F m.length δ σ ∧ Post g rel ρ F m H (r δ m) Q (WE W σ)
abbrev rdE (g : Gn) (W : WX) (r : Sl → Mem → R D) : TE := rdX g (RD g) W r
abbrev rdT (g : Gn) (W : WX) (r : Sl → Mem → R Bool) : TT := rdX g RB' W r
abbrev rdA (g : Gn) (W : WX) (r : Sl → Mem → R (List D)) : TA := rdX g (RDs g) W r
abbrev rdO (g : Gn) (W : WX) (r : Sl → Mem → R (Option Int)) : L2.TO := rdX g RO' W r

section
variable {g : Gn} {W : WX} {X : Cx}
/-- one thing ahead of another -/
theorem rdX.bind {α β γ δ : Type} {rel : Rho → Hp → Nat → α → γ → Prop} {rel2 : Rho → Hp → Nat → β → δ → Prop} {ra : Sl → Mem → R α} {rb : α → Sl → Mem → R β} {σ : L2.St} {H : Hp} {Q : δ → Hp → Prop} {Q1 : γ → Hp → Prop}
    (h : rdX g rel2 W (fun δ m => (ra δ m).bind fun x m => rb x δ m) σ H Q)
    (k : ∀ δ d m ρ F v H', MRel g ρ F m H' → RSl g ρ F m.length δ σ → rel ρ F m.length d v → Post g rel2 ρ F m H' (rb d δ m) Q (WE W σ) → Q1 v H') : rdX g rel W ra σ H Q1 := by
  obtain ⟨δ, m, ρ, F, M, rs, P⟩ := h
  exact ⟨δ, m, ρ, F, M, rs, P.bind fun d m' v H' ρ' F' x M' r P' => k δ d m' ρ' F' v H' M' (rs.mono x) r P'⟩
/-- .. where the second is a reading, too, that knows the first's value -/
theorem rdX.bind2 {α β γ δ : Type} {rel : Rho → Hp → Nat → α → γ → Prop} {rel2 : Rho → Hp → Nat → β → δ → Prop} {ra : Sl → Mem → R α} {rb : Sl → Mem → R β} {op : α → β → Mem → R D} {σ : L2.St} {H : Hp} {Q : VK} {q : γ → δ → Hp → VK → Prop}
    (mo : ∀ {ρ ρ1 : Rho} {F F1 : Hp} {m m1 : Mem} {H H1 : Hp} {a : α} {v : γ}, Ext ρ F m H ρ1 F1 m1 H1 → rel ρ F m.length a v → rel ρ1 F1 m1.length a v)
    (h : rdE g W (fun δ m => (ra δ m).bind fun x m => (rb δ m).bind fun y m => op x y m) σ H Q)
    (k : ∀ d e m ρ F v u H', MRel g ρ F m H' → rel ρ F m.length d v → rel2 ρ F m.length e u → PostD g ρ F m H' (op d e m) Q (WE W σ) → q v u H' Q) :
    rdX g rel W ra σ H fun x H1 => rdX g rel2 W rb σ H1 fun y H2 => q x y H2 Q := by
  refine rdX.bind h fun δ d m ρ F v H' M rs r P => ⟨δ, m, ρ, F, M, rs, P.bind fun e m2 u H2 ρ2 F2 x2 M2 r2 P2 => ?_⟩
  exact k d e m2 ρ2 F2 v u H2 M2 (mo x2 r) r2 P2
theorem rdE.op {ra rb : Sl → Mem → R D} {op : D → D → Mem → R D} {σ : L2.St} {H : Hp} {Q : VK}
    (h : rdE g W (fun δ m => (ra δ m).bind fun x m => (rb δ m).bind fun y m => op x y m) σ H Q) : tOp (rd2 g op) (rdE g W ra) (rdE g W rb) σ H Q :=
  rdX.bind2 (fun x r => r.mono x) h fun d e m ρ F v u H' M r1 r2 P => ⟨d, e, m, ρ, F, _, M, r1, r2, P⟩
/-- a bool -/
theorem asB_post {ρ : Rho} {F : Hp} {m : Mem} {H : Hp} {d : D} {v : V} {α γ : Type} {rel : Rho → Hp → Nat → α → γ → Prop} {f : Bool → Mem → R α} {Q : γ → Hp → Prop} {E : XK} (h : Post g rel ρ F m H ((asB d m).bind f) Q E) (r : RD g ρ F m.length d v) :
    ∃ b, d = .p (.bl b) ∧ v = .bl b ∧ Post g rel ρ F m H (f b m) Q E := by
  unfold asB at h
  split at h
  · rename_i b
    cases r
    exact ⟨b, rfl, rfl, h⟩
  · exact h.elim
/-- a test from a value -/
theorem rdT.val {ra : Sl → Mem → R D} {σ : L2.St} {H : Hp} {Q : Bool → Hp → Prop} (h : rdT g W (fun δ m => (ra δ m).bind asB) σ H Q) : tB (rdE g W ra) σ H Q := by
  obtain ⟨δ, m, ρ, F, M, rs, P⟩ := h
  refine ⟨δ, m, ρ, F, M, rs, P.bind fun d m' v H' ρ' F' x M' r P' => ?_⟩
  unfold asB at P'
  split at P'
  · rename_i b
    cases r
    exact ⟨b, rfl, P'.val M' rfl⟩
  · exact P'.elim

/-! ### the names -/
structure Cd where
  N : List Str
  sc : Scope
  fn : Str → Bool
structure Tb where
  fn : Nat → Option Str
  gl : Nat → Option Str
  cn : Nat → Option Str
  kw : Nat → Nat → List Str → Option (List Nat)
def isVis (cd : Cd) (x : Str) : Bool := match cd.sc.names.lookup x with
  | some .local => true | some .cell => true | some .free => true | _ => false
def isLoc (cd : Cd) (x : Str) : Bool := match cd.sc.names.lookup x with
  | some .local => true | some .cell => cd.fn x | _ => false
def isL (cd : Cd) (x : Str) : Bool := match cd.sc.names.lookup x with
  | some .local => true | _ => false
def isGl (cd : Cd) (x : Str) : Bool := match cd.sc.names.lookup x with
  | some .globalImplicit => true | _ => false
def nodb (x : Str) : Bool := !(x == ("__debug__" : Str)) && !(x == ("__classdict__" : Str))
/-- what the context must bear; lv: how deep calls may go; κ lv: their room -/
structure Cok (g : Gn) (T : Tb) (p : Pg) (lv : Nat) (X : Cx) (W : WX) (cd : Cd) : Prop where
  K : X.K = g.K
  kf : Kf g
  N : X.N = cd.N
  sc : X.env.scope = cd.sc
  fn : X.fn = cd.fn
  nd : X.N.Nodup
  calm : X.calm = true
  tk : Takes X W
  room : Room (lv + 2) X.A
  bl : ∀ x ∈ (["isinstance", "range", "zip", "len", "int", "abs", "list", "tuple", "all", "any", "sum", "str", "bool", "dict", "enumerate", "sorted", "min", "max", "set", "type"] : List String), X.mg (Str.ofString x) = none
  call : ∀ f x, T.fn f = some x → ∃ a, X.mg x = some (.ref a) ∧ PySem.W.keepIn X.K (.ref a) = true ∧
    FnR X.prog X.w X.K X.mg X.base (L2.CX X.prog X.w) (lv + 2) a (fun vs H Q E => ∃ ds m ρ F, MRel g ρ F m H ∧ RDs g ρ F m.length ds vs ∧ PostD g ρ F m H (callAt p lv f ds m) Q E)
  callK : ∀ f x np ks pm, T.fn f = some x → T.kw f np ks = some pm → ∃ a fd ps, X.mg x = some (.ref a) ∧ PySem.W.keepIn X.K (.ref a) = true ∧
    FnOk X.prog X.w X.K X.mg X.base (L2.CX X.prog X.w) (lv + 2) a fd ps (fun vs H Q E => vs.length = ps.length ∧ ∃ ds m ρ F, MRel g ρ F m H ∧ RDs g ρ F m.length ds vs ∧ PostD g ρ F m H (callAt p lv f ds m) Q E) ∧
    pm.length = ps.length ∧ (∀ i ∈ pm, i < np + ks.length) ∧ KBn X.K fd ps np ks (permL pm) (permL pm)
  gl : ∀ n x, T.gl n = some x → ∃ v u, X.mg x = some u ∧ RelV v u ∧ ∀ F, RP g F (p.gv n) v
  cn : ∀ n x, T.cn n = some x → X.mg x = some (.ref (g.cA n)) ∧ g.cs n = true
variable {T : Tb} {p : Pg} {lv : Nat} {cd : Cd}
theorem Cok.hu (c : Cok g T p lv X W cd) : X.A.units + 65 < cLine := by have := c.room.un; omega
theorem Cok.vis (c : Cok g T p lv X W cd) {x : Str} (h : isVis cd x = true) : Vis X.env.scope x := by
  unfold isVis at h
  rw [c.sc]
  split at h
  · rename_i e; exact .inl e
  · rename_i e; exact .inr (.inl e)
  · rename_i e; exact .inr (.inr e)
  · cases h
theorem Cok.loc (c : Cok g T p lv X W cd) {x : Str} (h : isLoc cd x = true) : Loc X.env.scope x ∧ (X.fn x = true ∨ X.env.scope.names.lookup x = some .local) := by
  unfold isLoc at h
  rw [c.sc, c.fn]
  split at h
  · rename_i e; exact ⟨.inl e, .inr e⟩
  · rename_i e; exact ⟨.inr e, .inl h⟩
  · cases h
theorem Cok.lcl (c : Cok g T p lv X W cd) {x : Str} (h : isL cd x = true) : X.env.scope.names.lookup x = some .local := by
  unfold isL at h
  rw [c.sc]
  split at h
  · rename_i e; exact e
  · cases h
theorem Cok.glb (c : Cok g T p lv X W cd) {x : Str} (h : isGl cd x = true) : Gl X x := by
  unfold isGl at h
  unfold Gl Env.kindOf
  rw [c.sc]
  split at h
  · rename_i e; exact e
  · cases h
theorem nodb_ok {x : Str} (h : nodb x = true) : (x == ("__debug__" : Str)) = false ∧ (x == ("__classdict__" : Str)) = false := by
  unfold nodb at h
  simpa using h

/-! ### plain cases -/
theorem e_var (c : Cok g T p lv X W cd) {i : Nat} {x : Str} {pos : Pos} (hi : cd.N[i]? = some x) (hv : isVis cd x = true) (hd : nodb x = true) :
    PE X (.Name x pos) (rdE g W fun δ m => match δ[i]? with | some (some d) => .ok d m | _ => .no) := by
  refine (pe_var (i := i) (by rw [c.N]; exact hi) (c.vis hv) (nodb_ok hd).1 (nodb_ok hd).2).imp fun σ H Q ⟨δ, m, ρ, F, M, rs, P⟩ => ?_
  dsimp only at P
  split at P
  · rename_i d e
    obtain ⟨v, e1, r⟩ := rs.get i d e
    exact ⟨v, e1, P.val M r⟩
  · exact P.elim
theorem e_glo (c : Cok g T p lv X W cd) {n : Nat} {x : Str} {pos : Pos} (hi : T.gl n = some x) (hv : isGl cd x = true) (hd : nodb x = true) :
    PE X (.Name x pos) (rdE g W fun _ m => .ok (.p (p.gv n)) m) := by
  obtain ⟨v, u, h1, h2, h3⟩ := c.gl n x hi
  exact (pe_glob (c.glb hv) h1 h2 (nodb_ok hd).1).imp fun σ H Q ⟨δ, m, ρ, F, M, rs, P⟩ => P.val M (h3 F)
def cstOk : P → Const → Bool
  | .non, .none => true
  | .bl b, .bool c => b == c
  | .int i, .int j => decide (i = j)
  | .str x, .str y => decide (x = y)
  | _, _ => false
theorem e_cst {x : P} {k : Const} {j : Nat} {pos : Pos} (h : cstOk x k = true) : PE X (.Constant k j pos) (rdE g W fun _ m => .ok (.p x) m) := by
  unfold cstOk at h
  split at h
  · exact pe_non.imp fun σ H Q ⟨δ, m, ρ, F, M, rs, P⟩ => P.val M RP.non
  · rw [eq_of_beq h]
    exact pe_bl.imp fun σ H Q ⟨δ, m, ρ, F, M, rs, P⟩ => P.val M (RP.bl _)
  · rw [of_decide_eq_true h]
    exact pe_int.imp fun σ H Q ⟨δ, m, ρ, F, M, rs, P⟩ => P.val M (RP.int _)
  · rw [of_decide_eq_true h]
    exact pe_str.imp fun σ H Q ⟨δ, m, ρ, F, M, rs, P⟩ => P.val M (RP.str _)
  · cases h
theorem e_bin (c : Cok g T p lv X W cd) {o : BOp} {a b : Expr} {pos : Pos} {ra rb : Sl → Mem → R D} (ha : PE X a (rdE g W ra)) (hb : PE X b (rdE g W rb)) :
    PE X (.BinOp a (bO o) b pos) (rdE g W fun δ m => (ra δ m).bind fun x m => (rb δ m).bind fun y m => binS o x y m) :=
  (pe_op (bin_ok c.K o) ha hb).imp fun _ _ _ h => rdE.op h
theorem e_neg {a : Expr} {pos : Pos} {ra : Sl → Mem → R D} (ha : PE X a (rdE g W ra)) :
    PE X (.UnaryOp .USub a pos) (rdE g W fun δ m => (ra δ m).bind fun x m => match x with | .p (.int i) => .ok (.p (.int (-i))) m | _ => .no) :=
  (pe_un un_neg ha).imp fun _ _ _ h => rdX.bind h fun δ d m ρ F v H' M rs r P => by
    split at P
    · cases r
      exact ⟨_, rfl, P.val M (RP.int _)⟩
    · exact P.elim
def noSet : Expr → Bool
  | .Set .. => false
  | _ => true
theorem noSet_ok {op : CmpOp} {b : Expr} (h : noSet b = true) : behindInMarks op b = false := by cases b <;> first | rfl | cases h
theorem e_cmp (c : Cok g T p lv X W cd) {o : COp} {a b : Expr} {pos : Pos} {ra rb : Sl → Mem → R D} (ha : PE X a (rdE g W ra)) (hb : PE X b (rdE g W rb)) (hn : noSet b = true) :
    PE X (.Compare a [cO o] [b] pos) (rdE g W fun δ m => (ra δ m).bind fun x m => (rb δ m).bind fun y m => cmpS o x y m) :=
  (pe_cmpR (cmp_ok c.K c.hu o) ha hb (noSet_ok hn)).imp fun _ _ _ h => rdE.op h
theorem t_cmp (c : Cok g T p lv X W cd) {o : COp} {a b : Expr} {pos : Pos} {ra rb : Sl → Mem → R D} (ha : PE X a (rdE g W ra)) (hb : PE X b (rdE g W rb)) (hn : noSet b = true) :
    PT X (.Compare a [cO o] [b] pos) (rdT g W fun δ m => ((ra δ m).bind fun x m => (rb δ m).bind fun y m => cmpS o x y m).bind asB) := by
  refine (pt_cmpR (cmp_ok c.K c.hu o) ha hb (noSet_ok hn)).imp fun _ _ _ h => ?_
  exact rdE.op (rdT.val h)
theorem last2 {o o' : CmpOp} {b c : Expr} (h : noSet c = true) : lastMarks [o, o'] [b, c] = false := noSet_ok h
theorem chain_rd {o o' : COp} {ra rb rc : Sl → Mem → R D} {σ : L2.St} {H : Hp} {Q : VK}
    (h : rdE g W (fun δ m => (ra δ m).bind fun x m => (rb δ m).bind fun y m => (cmpS o x y m).bind fun k m => (asB k m).bind fun k m => if k then (rc δ m).bind fun z m => cmpS o' y z m else .ok (.p (.bl false)) m) σ H Q) :
    tChain (rd2 g (cmpS o)) (rd2 g (cmpS o')) (rdE g W ra) (rdE g W rb) (rdE g W rc) σ H Q := by
  refine rdX.bind h fun δ d m ρ F v H' M rs r P => ⟨δ, m, ρ, F, M, rs, P.bind fun e m2 u H2 ρ2 F2 x2 M2 r2 P2 => ?_⟩
  refine ⟨d, e, m2, ρ2, F2, WE W σ, M2, r.mono x2, r2, P2.bind fun k m3 z H3 ρ3 F3 x3 M3 r3 P3 => ?_⟩
  obtain ⟨b, rfl, rfl, P4⟩ := asB_post P3 r3
  refine ⟨b, rfl, ?_⟩
  cases b with
  | false => exact P4.val M3 (RP.bl _)
  | true => exact ⟨δ, m3, ρ3, F3, M3, (rs.mono x2).mono x3, P4.bind fun z m4 y H4 ρ4 F4 x4 M4 r4 P5 => ⟨e, z, m4, ρ4, F4, WE W σ, M4, (r2.mono x3).mono x4, r4, P5⟩⟩
theorem e_cmp2 (c : Cok g T p lv X W cd) {o o' : COp} {a b e : Expr} {pos : Pos} {ra rb rc : Sl → Mem → R D} (ha : PE X a (rdE g W ra)) (hb : PE X b (rdE g W rb)) (he : PE X e (rdE g W rc)) (hn : noSet e = true) :
    PE X (.Compare a [cO o, cO o'] [b, e] pos) (rdE g W fun δ m => (ra δ m).bind fun x m => (rb δ m).bind fun y m => (cmpS o x y m).bind fun k m => (asB k m).bind fun k m => if k then (rc δ m).bind fun z m => cmpS o' y z m else .ok (.p (.bl false)) m) :=
  (pe_chain (cmp_ok c.K c.hu o) (cmp_ok c.K c.hu o') ha hb he (last2 hn)).imp fun _ _ _ h => chain_rd h
theorem t_cmp2 (c : Cok g T p lv X W cd) {o o' : COp} {a b e : Expr} {pos : Pos} {ra rb rc : Sl → Mem → R D} (ha : PE X a (rdE g W ra)) (hb : PE X b (rdE g W rb)) (he : PE X e (rdE g W rc)) (hn : noSet e = true) :
    PT X (.Compare a [cO o, cO o'] [b, e] pos) (rdT g W fun δ m => ((ra δ m).bind fun x m => (rb δ m).bind fun y m => (cmpS o x y m).bind fun k m => (asB k m).bind fun k m => if k then (rc δ m).bind fun z m => cmpS o' y z m else .ok (.p (.bl false)) m).bind asB) :=
  (pt_chain (cmp_ok c.K c.hu o) (cmp_ok c.K c.hu o') ha hb he (last2 hn)).imp fun _ _ _ h => chain_rd (rdT.val h)
theorem e_and {a b : Expr} {l : List Expr} {pos : Pos} {ra rb : Sl → Mem → R D} (ha : PE X a (rdE g W ra)) (hb : PE X (.BoolOp .And (b :: l) pos) (rdE g W rb)) :
    PE X (.BoolOp .And (a :: b :: l) pos) (rdE g W fun δ m => (ra δ m).bind fun x m => (asB x m).bind fun x m => if x then rb δ m else .ok (.p (.bl false)) m) := by
  refine (pe_and ha hb).imp fun σ H Q h => rdX.bind h fun δ d m ρ F v H' M rs r P => ?_
  obtain ⟨b, rfl, rfl, P2⟩ := asB_post P r
  refine ⟨b, rfl, ?_⟩
  cases b with
  | false => exact P2.val M (RP.bl _)
  | true => exact ⟨δ, m, ρ, F, M, rs, P2⟩
theorem e_or {a b : Expr} {l : List Expr} {pos : Pos} {ra rb : Sl → Mem → R D} (ha : PE X a (rdE g W ra)) (hb : PE X (.BoolOp .Or (b :: l) pos) (rdE g W rb)) :
    PE X (.BoolOp .Or (a :: b :: l) pos) (rdE g W fun δ m => (ra δ m).bind fun x m => (asB x m).bind fun x m => if x then .ok (.p (.bl true)) m else rb δ m) := by
  refine (pe_or ha hb).imp fun σ H Q h => rdX.bind h fun δ d m ρ F v H' M rs r P => ?_
  obtain ⟨b, rfl, rfl, P2⟩ := asB_post P r
  refine ⟨b, rfl, ?_⟩
  cases b with
  | true => exact P2.val M (RP.bl _)
  | false => exact ⟨δ, m, ρ, F, M, rs, P2⟩
theorem e_not {a : Expr} {pos : Pos} {ra : Sl → Mem → R D} (ha : PE X a (rdE g W ra)) :
    PE X (.UnaryOp .Not a pos) (rdE g W fun δ m => (ra δ m).bind fun x m => (asB x m).bind fun x m => .ok (.p (.bl (!x))) m) := by
  refine (pe_not ha).imp fun σ H Q h => rdX.bind h fun δ d m ρ F v H' M rs r P => ?_
  obtain ⟨b, rfl, rfl, P2⟩ := asB_post P r
  exact ⟨b, rfl, P2.val M (RP.bl _)⟩
/-- the tests -/
theorem bB {ra : R D} {k : Bool → Mem → R D} {α : Type} (f : D → Mem → R α) : ((ra.bind fun x m => (asB x m).bind k).bind f) = (ra.bind asB).bind fun b m => (k b m).bind f := by
  cases ra with
  | ok d m =>
    show ((asB d m).bind k).bind f = (asB d m).bind fun b m => (k b m).bind f
    cases asB d m <;> rfl
  | ex x m => rfl
  | no => rfl
theorem _root_.L2.PW.imp {X : Cx} {e : Expr} {t t' : TT} (h : PW X e t) (k : ∀ σ H Q, t' σ H Q → t σ H Q) : PW X e t' := ⟨fun wh pins s σ H Q I q => h.run wh pins s σ H Q I (k σ H Q q)⟩
theorem t_and {a b : Expr} {l : List Expr} {pos : Pos} {ra rb : Sl → Mem → R D} (ha : PT X a (rdT g W fun δ m => (ra δ m).bind asB)) (hb : PW X (.BoolOp .And (b :: l) pos) (rdT g W fun δ m => (rb δ m).bind asB)) :
    PW X (.BoolOp .And (a :: b :: l) pos) (rdT g W fun δ m => ((ra δ m).bind fun x m => (asB x m).bind fun x m => if x then rb δ m else .ok (.p (.bl false)) m).bind asB) := by
  refine (pw_and ha hb).imp fun σ H Q h => ?_
  obtain ⟨δ, m, ρ, F, M, rs, P⟩ := h
  dsimp only at P
  rw [bB] at P
  refine ⟨δ, m, ρ, F, M, rs, P.bind fun d m' v H' ρ' F' x M' r P' => ?_⟩
  subst r
  cases v with
  | true => exact ⟨δ, m', ρ', F', M', rs.mono x, P'⟩
  | false => exact P'.val M' rfl
theorem t_or {a b : Expr} {l : List Expr} {pos : Pos} {ra rb : Sl → Mem → R D} (ha : PT X a (rdT g W fun δ m => (ra δ m).bind asB)) (hb : PW X (.BoolOp .Or (b :: l) pos) (rdT g W fun δ m => (rb δ m).bind asB)) :
    PW X (.BoolOp .Or (a :: b :: l) pos) (rdT g W fun δ m => ((ra δ m).bind fun x m => (asB x m).bind fun x m => if x then .ok (.p (.bl true)) m else rb δ m).bind asB) := by
  refine (pw_or ha hb).imp fun σ H Q h => ?_
  obtain ⟨δ, m, ρ, F, M, rs, P⟩ := h
  dsimp only at P
  rw [bB] at P
  refine ⟨δ, m, ρ, F, M, rs, P.bind fun d m' v H' ρ' F' x M' r P' => ?_⟩
  subst r
  cases v with
  | false => exact ⟨δ, m', ρ', F', M', rs.mono x, P'⟩
  | true => exact P'.val M' rfl
theorem t_not {a : Expr} {pos : Pos} {ra : Sl → Mem → R D} (ha : PT X a (rdT g W fun δ m => (ra δ m).bind asB)) :
    PT X (.UnaryOp .Not a pos) (rdT g W fun δ m => ((ra δ m).bind fun x m => (asB x m).bind fun x m => .ok (.p (.bl (!x))) m).bind asB) := by
  refine (pt_not ha).imp fun σ H Q h => ?_
  obtain ⟨δ, m, ρ, F, M, rs, P⟩ := h
  dsimp only at P
  rw [bB] at P
  refine ⟨δ, m, ρ, F, M, rs, P.bind fun d m' v H' ρ' F' x M' r P' => ?_⟩
  subst r
  exact P'.val M' rfl
/-- a test of no form of its own -/
def plainT : Expr → Bool
  | .UnaryOp .Not .. => false
  | .BoolOp .. => false
  | .IfExp .. => false
  | .Compare .. => false
  | _ => true
theorem t_val {e : Expr} {ra : Sl → Mem → R D} (he : PE X e (rdE g W ra)) (hp : plainT e = true) : PT X e (rdT g W fun δ m => (ra δ m).bind asB) := by
  refine (pt_val he fun whole => ?_).imp fun σ H Q h => rdT.val h
  cases e <;> first
    | rfl
    | cases hp
    | (rename_i op _ _; cases op <;> first | rfl | cases hp)
theorem e_ite {c a b : Expr} {pos : Pos} {rc ra rb : Sl → Mem → R D} (hc : PT X c (rdT g W fun δ m => (rc δ m).bind asB)) (ha : PE X a (rdE g W ra)) (hb : PE X b (rdE g W rb)) :
    PE X (.IfExp c a b pos) (rdE g W fun δ m => (rc δ m).bind fun x m => (asB x m).bind fun x m => if x then ra δ m else rb δ m) := by
  refine (pe_ifExp hc ha hb).imp fun σ H Q h => ?_
  obtain ⟨δ, m, ρ, F, M, rs, P⟩ := h
  have P : PostD g ρ F m H (((rc δ m).bind asB).bind fun x m => if x then ra δ m else rb δ m) Q (WE W σ) := by
    have e : ((rc δ m).bind fun x m => (asB x m).bind fun x m => if x then ra δ m else rb δ m) = ((rc δ m).bind asB).bind fun x m => if x then ra δ m else rb δ m := by cases rc δ m <;> rfl
    rw [← e]; exact P
  refine ⟨δ, m, ρ, F, M, rs, P.bind fun d m' v H' ρ' F' x M' r P' => ?_⟩
  subst r
  cases v with
  | false => exact ⟨δ, m', ρ', F', M', rs.mono x, P'⟩
  | true => exact ⟨δ, m', ρ', F', M', rs.mono x, P'⟩
def noSl : Expr → Bool
  | .Slice .. => false
  | _ => true
theorem plainIx_of {b : Expr} (h : noSl b = true) : PlainIx b := by
  intro o i
  cases b <;> first | rfl | cases h
theorem e_ix (c : Cok g T p lv X W cd) {a b : Expr} {pos : Pos} {ra rb : Sl → Mem → R D} (ha : PE X a (rdE g W ra)) (hb : PE X b (rdE g W rb)) (hn : noSl b = true) :
    PE X (.Subscript a b pos) (rdE g W fun δ m => (ra δ m).bind fun x m => (rb δ m).bind fun y m => ixS x y m) :=
  (pe_ix (ix_ok c.K c.hu) ha hb (plainIx_of hn)).imp fun _ _ _ h => rdE.op h
theorem o_none : L2.PO X none (rdO g W fun _ m => .ok none m) := L2.po_none.imp fun σ H Q ⟨δ, m, ρ, F, M, rs, P⟩ => P.val M rfl
theorem o_some {e : Expr} {ra : Sl → Mem → R D} (he : PE X e (rdE g W ra)) : L2.PO X (some e) (rdO g W fun δ m => (ra δ m).bind fun x m => match x with | .p (.int i) => .ok (some i) m | _ => .no) :=
  (L2.po_some he).imp fun σ H Q h => rdX.bind h fun δ d m ρ F v H' M rs r P => by
    split at P
    · cases r
      exact ⟨_, rfl, P.val M rfl⟩
    · exact P.elim
theorem e_sl (c : Cok g T p lv X W cd) {a : Expr} {lo hi : Option Expr} {pos p2 : Pos} {ra : Sl → Mem → R D} {rl rh : Sl → Mem → R (Option Int)} (ha : PE X a (rdE g W ra)) (hl : L2.PO X lo (rdO g W rl)) (hh : L2.PO X hi (rdO g W rh)) :
    PE X (.Subscript a (.Slice lo hi none p2) pos) (rdE g W fun δ m => (ra δ m).bind fun x m => (rl δ m).bind fun i m => (rh δ m).bind fun j m => slS x i j m) := by
  refine (L2.pe_slice (sl_ok c.K) ha hl hh).imp fun σ H Q h => rdX.bind h fun δ d m ρ F v H' M rs r P => ?_
  refine ⟨δ, m, ρ, F, M, rs, P.bind fun i m2 i' H2 ρ2 F2 x2 M2 r2 P2 => ⟨δ, m2, ρ2, F2, M2, rs.mono x2, P2.bind fun j m3 j' H3 ρ3 F3 x3 M3 r3 P3 => ?_⟩⟩
  subst r2 r3
  exact ⟨d, m3, ρ3, F3, _, M3, (r.mono x2).mono x3, P3⟩
/-- freezing: nothing is done -/
theorem frz_post {ρ : Rho} {F H : Hp} {m : Mem} {Q : VK} {E : XK} {d : D} {v : V} (M : MRel g ρ F m H) (r : RD g ρ F m.length d v) (h : PostD g ρ F m H (frzS d m) Q E) : Q v H := by
  unfold frzS at h
  split at h
  · exact h.val M r
  · rename_i n
    split at h
    · rename_i l q
      split at h
      · rename_i ps e
        obtain ⟨ho, rfl, h1, h2⟩ := M.look q r
        obtain ⟨vs, rfl, h3⟩ := rmo_lst h2
        obtain ⟨x, M'⟩ := step_frz M (get_some q) h1
        rw [allP_eq e] at h3
        exact h _ _ _ _ x M' (RP.lst upd_same (RPs.up x.Sub (RPs.of h3)))
      · exact h.elim
    · rename_i c l q
      split at h
      · rename_i ps e
        obtain ⟨ho, rfl, h1, h2⟩ := M.look q r
        obtain ⟨dx, fs, rfl, hs, h3⟩ := rmo_ins h2
        obtain ⟨x, M'⟩ := step_frz M (get_some q) h1
        refine h _ _ _ _ x M' (RP.ins hs upd_same ?_)
        have e' := allP_eq e
        have : ∀ {l : List (Nat × D)} {ps : List P} {fs : List (Str × V)}, l.map (·.2) = ps.map D.p → RDf g ρ F m.length l fs → RPf g F ((l.map (·.1)).zip ps) fs := by
          intro l
          induction l with
          | nil => intro ps fs e h; cases fs with | nil => exact RPf.nil | cons _ _ => exact h.elim
          | cons d l ih =>
            intro ps fs e h
            cases fs with
            | nil => exact h.elim
            | cons f fs =>
              cases ps with
              | nil => cases e
              | cons q ps =>
                injection e with e1 e2
                obtain ⟨n, w⟩ := d
                obtain ⟨fn, fv⟩ := f
                obtain ⟨⟨z1, z2⟩, z3⟩ := h
                dsimp only at e1 z1 z2
                subst e1 z1
                exact RPf.cons z2 (ih e2 z3)
        exact RPf.up x.Sub (this e' h3)
      · exact h.elim
    · exact h.elim
theorem e_frz {a : Expr} {ra : Sl → Mem → R D} (ha : PE X a (rdE g W ra)) : PE X a (rdE g W fun δ m => (ra δ m).bind frzS) :=
  ha.imp fun _ _ _ h => rdX.bind h fun δ d m ρ F v H' M rs r P => frz_post M r P
/-! ### argument lists -/
theorem a_nil : PA X [] (rdA g W fun _ m => .ok [] m) := pa_nil.imp fun σ H Q ⟨δ, m, ρ, F, M, rs, P⟩ => P.val M trivial
def noStar : Expr → Bool
  | .Starred .. => false
  | _ => true
theorem star_cons {e : Expr} {es : List Expr} {env : Env} (h : noStar e = true) : starEach (e :: es) env = (false, eval e env) :: starEach es env := by cases e <;> first | rfl | cases h
theorem a_cons {e : Expr} {es : List Expr} {ra : Sl → Mem → R D} {rl : Sl → Mem → R (List D)} (he : PE X e (rdE g W ra)) (hl : PA X es (rdA g W rl)) (hn : noStar e = true) :
    PA X (e :: es) (rdA g W fun δ m => (ra δ m).bind fun x m => (rl δ m).bind fun xs m => .ok (x :: xs) m) := by
  refine (pa_cons he hl (star_cons hn)).imp fun σ H Q h => rdX.bind h fun δ d m ρ F v H' M rs r P => ?_
  exact ⟨δ, m, ρ, F, M, rs, P.bind fun l m2 vs H2 ρ2 F2 x2 M2 r2 P2 => P2.val M2 ⟨r.mono x2, r2⟩⟩
theorem seqD_any (c : Cok g T p lv X W cd) {ρ : Rho} {F H : Hp} {m : Mem} (M : MRel g ρ F m H) {d : D} {l : List D} {v : V} (e : seqD m d = some l) (r : RD g ρ F m.length d v) : ∃ a vs, v = .ref a ∧ RDs g ρ F m.length l vs ∧ (SqT X.K H a vs ∨ SqL X.K H a vs) := by
  obtain ⟨a, vs, e1, r1, q⟩ := seqD_ok M e r
  refine ⟨a, vs, e1, r1, ?_⟩
  rw [c.K]
  rcases q with ⟨q, _⟩ | ⟨q, _⟩
  · exact .inr (SqL.of q)
  · exact .inl q
theorem a_star (c : Cok g T p lv X W cd) {e : Expr} {es : List Expr} {ps : Pos} {ra : Sl → Mem → R D} {rl : Sl → Mem → R (List D)} (he : PE X e (rdE g W ra)) (hl : PA X es (rdA g W rl)) :
    PA X (.Starred e ps :: es) (rdA g W fun δ m => (ra δ m).bind fun x m => (oR (seqD m x) m).bind fun ys m => (rl δ m).bind fun xs m => .ok (ys ++ xs) m) := by
  refine (StX.pa_star he hl).imp fun σ H Q h => rdX.bind h fun δ d m ρ F v H' M rs r P => ?_
  unfold oR at P
  split at P
  · rename_i l e1
    obtain ⟨a, vs, rfl, r1, q⟩ := seqD_any c M e1 r
    refine ⟨a, vs, rfl, q, δ, m, ρ, F, M, rs, Post.bind P fun l2 m2 vs2 H2 ρ2 F2 x2 M2 r2 P2 => P2.val M2 ((r1.mono x2).append r2)⟩
  · exact P.elim
theorem e_tup {es : List Expr} {k : Nat} {pos : Pos} {rl : Sl → Mem → R (List D)} (hl : PA X es (rdA g W rl)) : PE X (.Tuple es k pos) (rdE g W fun δ m => (rl δ m).bind mkT) :=
  (pe_tup hl).imp fun _ _ _ h => rdX.bind h fun δ d m ρ F v H' M rs r P => mkT_post P M r
theorem e_lst {es : List Expr} {mu : Bool} {pos : Pos} {rl : Sl → Mem → R (List D)} (hl : PA X es (rdA g W rl)) : PE X (.List es pos) (rdE g W fun δ m => (rl δ m).bind (mkL mu)) :=
  (pe_lst hl).imp fun _ _ _ h => rdX.bind h fun δ d m ρ F v H' M rs r P => mkL_post P M r
end
end Dn

/-! Dn, part I: calls. -/
namespace Dn
open PySem PySem.Spec PyProof.Rows L2
section
variable {g : Gn} {W : WX} {X : Cx} {T : Tb} {p : Pg} {lv : Nat} {cd : Cd}

theorem plain_any {es : List Expr} {pos : Pos} {env : Env} (h : es.all noStar = true) : (backTo pos (starEach es env)).any (·.1) = false := by
  induction es with
  | nil => rfl
  | cons e es ih =>
    rw [List.all_cons, Bool.and_eq_true] at h
    rw [star_cons h.1]
    show (false || (backTo pos (starEach es env)).any (·.1)) = false
    rw [ih h.2]
    rfl
theorem star_any' {es : List Expr} {pos : Pos} {env : Env} (h : es.all noStar = false) : (backTo pos (starEach es env)).any (·.1) = true := by
  induction es with
  | nil => cases h
  | cons e es ih =>
    rw [List.all_cons] at h
    cases q : noStar e with
    | true =>
      rw [q] at h
      rw [star_cons q]
      show (false || (backTo pos (starEach es env)).any (·.1)) = true
      rw [ih h]
      rfl
    | false => cases e <;> first | rfl | cases q
/-- the callee runs -/
theorem run_own (c : Cok g T p lv X W cd) {f : Nat} {a : Addr} {pins : List (Addr × Obj)} {σ : L2.St} {H : Hp} {s : Shared} {Q : VK} {us : List Value} {vs : List V}
    (Fn : FnR X.prog X.w X.K X.mg X.base (L2.CX X.prog X.w) (lv + 2) a (fun vs H Q E => ∃ ds m ρ F, MRel g ρ F m H ∧ RDs g ρ F m.length ds vs ∧ PostD g ρ F m H (callAt p lv f ds m) Q E))
    (I : Inv X pins σ H s) (r : Vals vs us) {ds : List D} {m : Mem} {ρ : Rho} {F : Hp} (M : MRel g ρ F m H) (rd : RDs g ρ F m.length ds vs) (h : PostD g ρ F m H (callAt p lv f ds m) Q (WE W σ)) :
    wpAny (model X.prog X.w) X.A (call (.ref a) us) (EP X pins σ Q) X.xe s := by
  refine wpAny_call (codeAny_mono (Fn X.A X.stack s H us vs Q (WE W σ) c.room I.env0 r ⟨ds, m, ρ, F, M, rd, h⟩) fun r s' hq => ?_)
  cases r with
  | error e => exact c.tk e s' (XE.of_call I (fun _ _ _ h => h) hq)
  | ok fl =>
    cases fl with
    | ret u => exact I.after hq
    | next => exact False.elim hq
    | brk => exact False.elim hq
    | cont => exact False.elim hq
theorem e_call (c : Cok g T p lv X W cd) {f : Nat} {x : Str} {np pos : Pos} {e : Expr} {es : List Expr} {rl : Sl → Mem → R (List D)} (hf : T.fn f = some x) (hv : isGl cd x = true) (hd : nodb x = true) (hl : PA X (e :: es) (rdA g W rl)) (hn : noStar e = true) :
    PE X (.Call (.Name x np) (e :: es) [] pos) (rdE g W fun δ m => (rl δ m).bind (callAt p lv f)) := by
  obtain ⟨a, h1, h2, Fn⟩ := c.call f x hf
  refine ⟨fun pins s σ H Q I h => ?_⟩
  refine wpAny_Call_Name_kw (ld_glob I (c.glb hv) h1 ?_ (nodb_ok hd).1)
  have h' : rdA g W rl σ H fun vs H1 => ∃ ds m ρ F, MRel g ρ F m H1 ∧ RDs g ρ F m.length ds vs ∧ PostD g ρ F m H1 (callAt p lv f ds m) Q (WE W σ) :=
    rdX.bind h fun δ d m ρ F v H' M rs r P => ⟨d, m, ρ, F, M, r, P⟩
  have k := thn (hl.run pos pins s σ H _ I h') fun us s1 ⟨vs, H1, I1, r, ds, m, ρ, F, M, rd, q⟩ => (⟨I1.kIn, run_own c Fn I1 r M rd q⟩ : X.K.In s1.heap ∧ wpAny (model X.prog X.w) X.A (call (.ref a) us) (EP X pins σ Q) X.xe s1)
  cases q : es.all noStar with
  | true => exact PySem.W.callWith_K (h₀ := X.base) I.ok.mod.kin h2 k (star_cons hn) (plain_any q)
  | false => exact PySem.W.callWith_S2 (h₀ := X.base) (first := []) I.ok.mod.kin h2 k (star_cons hn) (star_any' q)
theorem e_call0 (c : Cok g T p lv X W cd) {f : Nat} {x : Str} {np pos : Pos} (hf : T.fn f = some x) (hv : isGl cd x = true) (hd : nodb x = true) :
    PE X (.Call (.Name x np) [] [] pos) (rdE g W fun δ m => (R.ok [] m).bind (callAt p lv f)) := by
  obtain ⟨a, h1, h2, Fn⟩ := c.call f x hf
  refine ⟨fun pins s σ H Q I ⟨δ, m, ρ, F, M, rs, P⟩ => ?_⟩
  refine wpAny_Call_Name_kw (ld_glob I (c.glb hv) h1 ?_ (nodb_ok hd).1)
  exact PySem.W.callWith_K0 I.kIn h2 (run_own c Fn (us := []) I .nil M (ds := []) trivial P)

/-! ### built-in functions -/
theorem bf_bl (c : Cok g T p lv X W cd) (f : BF) : X.mg (Str.ofString (bfN f)) = none := c.bl (bfN f) (by cases f <;> decide)
theorem bf_boot (f : BF) : bootBuiltins (Str.ofString (bfN f)) = some (bfV f) := by
  cases f with
  | len => exact bootS_len
  | int => exact boot_int
  | abs => exact boot_abs
  | list => exact boot_list
  | tuple => exact boot_tuple
  | all => exact boot_all
  | any => exact boot_any
  | sum => exact boot_sum
  | str => exact boot_str
theorem bf_nn (f : BF) : Str.ofString (bfN f) ≠ "__name__" ∧ (Str.ofString (bfN f) == ("__debug__" : Str)) = false := by cases f <;> exact ⟨by decide, by decide⟩
theorem e_bcl (c : Cok g T p lv X W cd) {f : BF} {x : Str} {np pos : Pos} {e : Expr} {es : List Expr} {rl : Sl → Mem → R (List D)} (hf : x = Str.ofString (bfN f)) (hv : isGl cd x = true) (hl : PA X (e :: es) (rdA g W rl)) (hn : noStar e = true) (hs : es.all noStar = true) :
    PE X (.Call (.Name x np) (e :: es) [] pos) (rdE g W fun δ m => (rl δ m).bind (bclS f)) := by
  subst hf
  have k : ∀ {σ H Q}, rdE g W (fun δ m => (rl δ m).bind (bclS f)) σ H Q → tCB (rdN g (bclS f)) (rdA g W rl) σ H Q := fun h => rdX.bind h fun δ d m ρ F v H' M rs r P => ⟨d, m, ρ, F, _, M, r, P⟩
  have ok := bcl_ok c.K c.calm f
  have bt := bf_boot f
  unfold bfV at ok bt
  split at ok
  · rename_i z
    rw [if_pos z] at bt
    exact (pe_callTy ok (c.glb hv) (bf_bl c f) bt hl (bf_nn f).1 (bf_nn f).2 (star_cons hn) (plain_any hs)).imp fun _ _ _ h => k h
  · rename_i z
    rw [if_neg z] at bt
    exact (pe_callB ok (c.glb hv) (bf_bl c f) bt hl (bf_nn f).1 (bf_nn f).2 (star_cons hn) (plain_any hs)).imp fun _ _ _ h => k h

/-! ### methods of built-in types -/
def noSup : Expr → Bool
  | .Call (.Name _ _) [] [] _ => false
  | _ => true
theorem noSup_ok {o : Expr} {a : Str} {env : Env} {w : Sem Value} (h : noSup o = true) : attributeBase o a env w = w := by
  unfold attributeBase
  split
  · cases h
  · rfl
def bmT : BM → String
  | .append => "list"
  | _ => "str"
def bmN : BM → String
  | .join => "join" | .append => "append"
def bmI : BM → String
  | .join => "str.join" | .append => "list.append"
theorem bm_attrs (f : BM) : PlainAttrs (bmT f) := by cases f <;> first | exact F.plainAttrs_list | exact F.plainAttrs_str
theorem bm_slot (f : BM) : Slot (bmT f) (Str.ofString (bmN f)) (bmI f) := by
  cases f with
  | join => exact F.slot_str_join
  | append => exact F.slot_list_append
theorem bm_type (f : BM) : typeOf (.builtin (bmI f)) = pure (.type "method_descriptor") := by
  cases f with
  | join => exact F.type_str_join
  | append => exact F.type_list_append
theorem bm_ok (hK : X.K = g.K) (f : BM) : MtR X (bmI f) (rdM g (bmtS f)) := by
  cases f with
  | join => exact join_ok hK
  | append => exact append_ok
theorem bm_ty (hK : X.K = g.K) {f : BM} {ρ : Rho} {F H : Hp} {m : Mem} {d : D} {v : V} (M : MRel g ρ F m H) (r : RD g ρ F m.length d v) (h : bmPre f d m = true) : L2.tyV X.K (bmT f) v H := by
  unfold bmPre at h
  split at h
  · cases r
    show bmT f = "str"
    cases f <;> first | rfl | cases h
  · rename_i n
    split at h
    · rename_i l e
      obtain ⟨ho, rfl, h1, h2⟩ := M.look e r
      obtain ⟨vs, rfl, h3⟩ := rmo_lst h2
      refine .inl ⟨?_, vs, SqL.of h1⟩
      cases f <;> first | rfl | cases h
    · cases h
  · cases h
theorem few_ok {es : List Expr} {pos : Pos} {env : Env} (h : es.all noStar = true) (hl : es.length < 30) : ((backTo pos (starEach es env)).all (fun x => !x.1) && (backToKw pos (keywordEach [] env)).all (fun x => x.1.isSome) && decide (es.length + ([] : List Keyword).length + (if ([] : List Keyword).isEmpty then 0 else 1) < 30)) = true := by
  have e1 : (backTo pos (starEach es env)).all (fun x => !x.1) = true := by
    have := plain_any (pos := pos) (env := env) h
    rw [List.all_eq_not_any_not]
    simp only [Bool.not_not]
    rw [this]
    rfl
  rw [e1, Bool.true_and, Bool.and_eq_true]
  exact ⟨rfl, decide_eq_true (by simpa using hl)⟩
theorem e_bmt (c : Cok g T p lv X W cd) {f : BM} {a e : Expr} {es : List Expr} {x : Str} {ap pos : Pos} {ra : Sl → Mem → R D} {rl : Sl → Mem → R (List D)} (hx : x = Str.ofString (bmN f)) (ha : PE X a (rdE g W ra)) (hl : PA X (e :: es) (rdA g W rl)) (hs : (e :: es).all noStar = true) (hlen : (e :: es).length < 30) (hb : noSup a = true) (hp : (ap.endLine == pos.line) = true) :
    PE X (.Call (.Attribute a x ap) (e :: es) [] pos) (rdE g W fun δ m => (ra δ m).bind fun x m => if bmPre f x m = true then (rl δ m).bind (bmtS f x) else .no) := by
  subst hx
  have hs' : noStar e = true ∧ es.all noStar = true := by rw [List.all_cons, Bool.and_eq_true] at hs; exact hs
  refine (pe_bm (bm_attrs f) (bm_slot f) (bm_type f) (bm_ok c.K f) ha hl (noSup_ok hb) (few_ok hs hlen) hp (star_cons hs'.1) (plain_any hs'.2)).imp fun σ H Q h => rdX.bind h fun δ d m ρ F v H' M rs r P => ?_
  split at P
  · rename_i hpre
    refine ⟨bm_ty c.K M r hpre, δ, m, ρ, F, M, rs, P.bind fun ds m2 vs H2 ρ2 F2 x2 M2 r2 P2 => ⟨d, ds, m2, ρ2, F2, _, M2, r.mono x2, r2, P2⟩⟩
  · exact P.elim

/-! ### isinstance -/
def tyN (T : Tb) : Ty → Option Str
  | .own c => T.cn c
  | t => some (Str.ofString (tyS t))
theorem e_ty (c : Cok g T p lv X W cd) {t : Ty} {x : Str} {pos : Pos} (h : tyN T t = some x) (hv : isGl cd x = true) (hd : nodb x = true) : PE X (.Name x pos) (tC (tyV g t)) ∧ tyOk g t = true := by
  cases t with
  | own n =>
    obtain ⟨h1, h2⟩ := c.cn n x h
    exact ⟨pe_glob (c.glb hv) h1 rfl (nodb_ok hd).1, h2⟩
  | int => cases h; exact ⟨pe_bltn (c.glb hv) (c.bl "int" (by decide)) boot_int rfl (by decide) (nodb_ok hd).1, rfl⟩
  | bool => cases h; exact ⟨pe_bltn (c.glb hv) (c.bl "bool" (by decide)) boot_bool rfl (by decide) (nodb_ok hd).1, rfl⟩
  | str => cases h; exact ⟨pe_bltn (c.glb hv) (c.bl "str" (by decide)) boot_str rfl (by decide) (nodb_ok hd).1, rfl⟩
  | list => cases h; exact ⟨pe_bltn (c.glb hv) (c.bl "list" (by decide)) boot_list rfl (by decide) (nodb_ok hd).1, rfl⟩
  | tuple => cases h; exact ⟨pe_bltn (c.glb hv) (c.bl "tuple" (by decide)) boot_tuple rfl (by decide) (nodb_ok hd).1, rfl⟩
  | dict => cases h; exact ⟨pe_bltn (c.glb hv) (c.bl "dict" (by decide)) boot_dict rfl (by decide) (nodb_ok hd).1, rfl⟩
/-- the names of classes -/
def tysOk (T : Tb) (cd : Cd) : List Ty → List Expr → Bool
  | [], [] => true
  | t :: l, .Name x _ :: es => (match tyN T t with | some y => decide (x = y) | none => false) && isGl cd x && nodb x && tysOk T cd l es
  | _, _ => false
def tCs : List V → TA
  | [] => tNil
  | v :: vs => tCons (tC v) (tCs vs)
theorem tCs_q {σ : L2.St} {H : Hp} {Q : List V → Hp → Prop} : ∀ {vs : List V}, Q vs H → tCs vs σ H Q
  | [], h => h
  | v :: vs, h => tCs_q (vs := vs) (Q := fun xs H2 => Q (v :: xs) H2) h
theorem a_tys (c : Cok g T p lv X W cd) : ∀ {l : List Ty} {es : List Expr}, tysOk T cd l es = true → PA X es (tCs (l.map (tyV g))) ∧ l.all (tyOk g) = true
  | [], [], _ => ⟨pa_nil, rfl⟩
  | t :: l, .Name x pos :: es, h => by
    unfold tysOk at h
    rw [Bool.and_eq_true, Bool.and_eq_true, Bool.and_eq_true] at h
    obtain ⟨⟨⟨h1, h2⟩, h3⟩, h4⟩ := h
    split at h1
    · rename_i y ey
      have := of_decide_eq_true h1
      subst this
      obtain ⟨e1, e2⟩ := e_ty c (pos := pos) ey h2 h3
      obtain ⟨e3, e4⟩ := a_tys c h4
      exact ⟨pa_cons e1 e3 rfl, by rw [List.all_cons, e2, e4]; rfl⟩
    · cases h1
theorem oB_kind {l : List Ty} {d : D} {m : Mem} {b : Bool} (hl : l ≠ []) (h : isTys l d m = some b) : ∃ k, kindS d m = some k := by
  cases l with
  | nil => exact absurd rfl hl
  | cons t l =>
    cases e : kindS d m with
    | some k => exact ⟨k, rfl⟩
    | none =>
      unfold isTys isTy at h
      rw [e] at h
      cases h
theorem e_isi1 (c : Cok g T p lv X W cd) {a e : Expr} {t : Ty} {np pos : Pos} {ra : Sl → Mem → R D} (hv : isGl cd "isinstance" = true) (ha : PE X a (rdE g W ra)) (hn : noStar a = true) (ht : tysOk T cd [t] [e] = true) :
    PE X (.Call (.Name "isinstance" np) [a, e] [] pos) (rdE g W fun δ m => (ra δ m).bind fun x m => oB (isTys [t] x m) m) := by
  obtain ⟨h1, h2⟩ := a_tys c ht
  have hne : noStar e = true := by cases e <;> first | rfl | cases ht
  refine (pe_callB call_isi (c.glb hv) (c.bl "isinstance" (by decide)) boot_isinstance (pa_cons ha h1 (star_cons hn)) (by decide) (by decide) (star_cons hn) (plain_any (by rw [List.all_cons, hne]; rfl))).imp fun σ H Q h => rdX.bind h fun δ d m ρ F v H' M rs r P => ?_
  refine tCs_q ?_
  obtain ⟨b, eb, q⟩ := oB_ok P M
  obtain ⟨k, ek⟩ := oB_kind (by simp) eb
  obtain ⟨k1, k2, k3⟩ := kind_ok c.kf M r ek
  have h2' : tyOk g t = true := by simpa using h2
  have hk := kit_ok c.kf h2' k2 k3
  have : b = isK t k := by
    unfold isTys at eb
    split at eb
    · rename_i e1
      obtain ⟨k', e2, e3⟩ := isTy_kind e1
      rw [ek] at e2; cases e2; cases eb; exact e3
    · rename_i e1
      obtain ⟨k', e2, e3⟩ := isTy_kind e1
      rw [ek] at e2; cases e2; cases eb; exact e3
    · cases eb
  refine ⟨v, tyV g t, kindU g k, tyU g t, b, rfl, ?_, by rw [c.K]; exact k1, by rw [c.K, this]; exact hk, q⟩
  cases t <;> first | exact .ty _ | exact .own _
theorem e_isiT (c : Cok g T p lv X W cd) {a : Expr} {es : List Expr} {l : List Ty} {np pos tp : Pos} {kk : Nat} {ra : Sl → Mem → R D} (hv : isGl cd "isinstance" = true) (ha : PE X a (rdE g W ra)) (hn : noStar a = true) (hl : l ≠ []) (hz : l.length ≤ 100) (ht : tysOk T cd l es = true) :
    PE X (.Call (.Name "isinstance" np) [a, .Tuple es kk tp] [] pos) (rdE g W fun δ m => (ra δ m).bind fun x m => oB (isTys l x m) m) := by
  obtain ⟨h1, h2⟩ := a_tys c ht
  refine (pe_callB call_isiT (c.glb hv) (c.bl "isinstance" (by decide)) boot_isinstance (pa_cons ha (pa_cons (pe_tup h1) pa_nil rfl) (star_cons hn)) (by decide) (by decide) (star_cons hn) rfl).imp fun σ H Q h => rdX.bind h fun δ d m ρ F v H' M rs r P => ?_
  refine tCs_q ⟨by rw [List.length_map]; exact Nat.le_trans hz (by decide), fun a' ha' => ?_⟩
  obtain ⟨x1, M1⟩ := step_pure (ho := .tup (l.map (tyV g))) M ha'
  obtain ⟨b, eb, q⟩ := oB_ok (Post.on x1 P) M1
  obtain ⟨k, ek⟩ := oB_kind hl eb
  obtain ⟨k1, k2, k3⟩ := kind_ok c.kf M1 (r.mono x1) ek
  exact ⟨v, a', l.map (tyV g), kindU g k, l.map (tyU g), b, rfl, upd_same, tys_cls l, by rw [c.K]; exact k1, by rw [c.K]; exact isTys_ok c.kf h2 M1 (r.mono x1) eb ek, q⟩
end
end Dn

/-! Dn, part J: targets, what is walked, comprehensions. -/
namespace Dn
open PySem PySem.Spec PyProof.Rows L2

/-! ### targets -/
mutual
def T.ixs : T → List Nat
  | .nm i => [i]
  | .tp l => TL.ixs l
def TL.ixs : TL → List Nat
  | .nil => []
  | .cons t l => T.ixs t ++ TL.ixs l
end
/-- σ' is σ but at l -/
def Same (l : List Nat) (σ σ' : L2.St) : Prop := σ'.length = σ.length ∧ ∀ i, i ∉ l → σ'[i]? = σ[i]?
theorem Same.refl (l : List Nat) (σ : L2.St) : Same l σ σ := ⟨rfl, fun _ _ => rfl⟩
theorem Same.app {l r : List Nat} {σ σ1 σ2 : L2.St} (h : Same l σ σ1) (k : Same r σ1 σ2) : Same (l ++ r) σ σ2 := ⟨k.1.trans h.1, fun i hi => by
  rw [List.mem_append, not_or] at hi
  exact (k.2 i hi.2).trans (h.2 i hi.1)⟩
def rdG (g : Gn) (t : T) : TG := fun v σ H Q => ∃ d δ m ρ F δ', MRel g ρ F m H ∧ RD g ρ F m.length d v ∧ RSl g ρ F m.length δ σ ∧ asgT t d m δ = some δ' ∧ ∀ σ', RSl g ρ F m.length δ' σ' → Same t.ixs σ σ' → Q σ' H
def rdGs (g : Gn) (t : TL) : TGs := fun vs σ H Q => ∃ ds δ m ρ F δ', MRel g ρ F m H ∧ RDs g ρ F m.length ds vs ∧ RSl g ρ F m.length δ σ ∧ asgTL t ds m δ = some δ' ∧ ∀ σ', RSl g ρ F m.length δ' σ' → Same t.ixs σ σ' → Q σ' H
mutual
def chkT (cd : Cd) : T → Expr → Bool
  | .nm i, e => match e with
    | .Name x _ => decide (cd.N[i]? = some x) && isLoc cd x
    | _ => false
  | .tp l, e => match e with
    | .Tuple es _ _ => chkTL cd l es
    | _ => false
def chkTL (cd : Cd) : TL → List Expr → Bool
  | .nil, l => match l with
    | [] => true
    | _ => false
  | .cons t l, es => match es with
    | e :: es => chkT cd t e && chkTL cd l es
    | [] => false
end
section
variable {g : Gn} {W : WX} {X : Cx} {T' : Tb} {p : Pg} {lv : Nat} {cd : Cd}
/-- no star among the targets -/
theorem tl_noStar : ∀ {l : TL} {es : List Expr}, chkTL cd l es = true → es.all (fun e => match e with | .Name .. => true | .Tuple .. => true | _ => false) = true
  | .nil, [], _ => rfl
  | .nil, _ :: _, h => by cases h
  | .cons t l, [], h => by cases h
  | .cons t l, e :: es, h => by
    unfold chkTL at h
    rw [Bool.and_eq_true] at h
    rw [List.all_cons, tl_noStar h.2, Bool.and_true]
    cases t <;> (unfold chkT at h; cases e <;> first | rfl | (exfalso; exact Bool.false_ne_true h.1))
theorem as_cons {e : Expr} {es : List Expr} {env : Env} (h : (match e with | .Name .. => true | .Tuple .. => true | _ => false) = true) : (assignEach (e :: es) env) = (false, assign e env) :: assignEach es env := by cases e <;> first | rfl | cases h
theorem as_len {env : Env} : ∀ {es : List Expr}, es.all (fun e => match e with | .Name .. => true | .Tuple .. => true | _ => false) = true → (assignEach es env).length = es.length ∧ (assignEach es env).findIdx? (·.1) = none
  | [], _ => ⟨rfl, rfl⟩
  | e :: es, h => by
    rw [List.all_cons, Bool.and_eq_true] at h
    rw [as_cons h.1]
    obtain ⟨h1, h2⟩ := as_len (env := env) h.2
    refine ⟨by rw [List.length_cons, List.length_cons, h1], ?_⟩
    rw [List.findIdx?_cons, h2]
    rfl
theorem tl_len {m : Mem} : ∀ {l : TL} {es : List Expr} {ds : List D} {δ δ' : Sl}, chkTL cd l es = true → asgTL l ds m δ = some δ' → ds.length = es.length
  | .nil, [], [], _, _, _, _ => rfl
  | .nil, [], _ :: _, _, _, _, h => by cases h
  | .nil, _ :: _, _, _, _, h, _ => by cases h
  | .cons t l, [], _, _, _, h, _ => by cases h
  | .cons t l, _ :: _, [], _, _, _, h => by cases h
  | .cons t l, e :: es, d :: ds, δ, δ', h, k => by
    unfold chkTL at h
    rw [Bool.and_eq_true] at h
    unfold asgTL at k
    split at k
    · rw [List.length_cons, List.length_cons, tl_len h.2 k]
    · cases k
mutual
theorem g_ok (c : Cok g T' p lv X W cd) : ∀ {t : T} {e : Expr}, chkT cd t e = true → PG X e (rdG g t)
  | .nm i, e, h => by
    unfold chkT at h
    split at h
    · rename_i x pos
      rw [Bool.and_eq_true] at h
      obtain ⟨h1, h2⟩ := h
      have h1 := of_decide_eq_true h1
      obtain ⟨l1, l2⟩ := c.loc h2
      refine (pg_name c.nd (by rw [c.N]; exact h1) l1 l2).imp fun v σ H Q ⟨d, δ, m, ρ, F, δ', M, r, rs, e1, k⟩ => ?_
      cases e1
      exact k _ (rs.set i r) ⟨by simp, fun j hj => List.getElem?_set_ne (fun z => hj (by simp [T.ixs, z]))⟩
    · cases h
  | .tp l, e, h => by
    unfold chkT at h
    split at h
    · rename_i es kk pos
      have ns := tl_noStar h
      have gs := gs_ok c h
      obtain ⟨a1, a2⟩ := as_len (env := X.env) ns
      refine ⟨fun pins s σ H v u Q I rv ⟨d, δ, m, ρ, F, δ', M, r, rs, e1, k⟩ => ?_⟩
      unfold asgT at e1
      split at e1
      · rename_i ds es'
        obtain ⟨a, vs, rfl, r1, q⟩ := seqD_any c M es' r
        have hl : vs.length = es.length := by rw [← r1.length]; exact tl_len h e1
        rcases q with q | q
        · exact (pg_tup c.calm gs a1 a2).run pins s σ H _ u Q I rv ⟨a, vs, rfl, q, hl, ds, δ, m, ρ, F, δ', M, r1, rs, e1, k⟩
        · exact (pg_unl c.calm gs a1 a2).run pins s σ H _ u Q I rv ⟨a, vs, rfl, q, hl, ds, δ, m, ρ, F, δ', M, r1, rs, e1, k⟩
      · cases e1
    · cases h
theorem gs_ok (c : Cok g T' p lv X W cd) : ∀ {l : TL} {es : List Expr}, chkTL cd l es = true → PGs X es (rdGs g l)
  | .nil, [], _ => pgs_nil.imp fun vs σ H Q ⟨ds, δ, m, ρ, F, δ', M, r, rs, e1, k⟩ => by
    cases ds with
    | nil =>
      cases vs with
      | nil => cases e1; exact ⟨rfl, k _ rs (Same.refl _ _)⟩
      | cons _ _ => exact r.elim
    | cons _ _ => cases e1
  | .nil, _ :: _, h => by cases h
  | .cons t l, [], h => by cases h
  | .cons t l, e :: es, h => by
    have ns := tl_noStar h
    rw [List.all_cons, Bool.and_eq_true] at ns
    unfold chkTL at h
    rw [Bool.and_eq_true] at h
    refine (pgs_cons (g_ok c h.1) (gs_ok c h.2) (by rw [as_cons ns.1]; rfl)).imp fun vs σ H Q ⟨ds, δ, m, ρ, F, δ', M, r, rs, e1, k⟩ => ?_
    cases ds with
    | nil => cases e1
    | cons d ds =>
      cases vs with
      | nil => exact r.elim
      | cons v vs =>
        unfold asgTL at e1
        split at e1
        · rename_i δ1 e2
          refine ⟨v, vs, rfl, d, δ, m, ρ, F, δ1, M, r.1, rs, e2, fun σ1 rs1 s1 => ⟨ds, δ1, m, ρ, F, δ', M, r.2, rs1, e1, fun σ2 rs2 s2 => k σ2 rs2 (s1.app s2)⟩⟩
        · cases e1
end

/-! ### what is walked -/
/-- the heap has gone on -/
structure On (ρ0 : Rho) (F0 : Hp) (k : Nat) (ρ : Rho) (F : Hp) (m : Mem) : Prop where
  sub : ∀ a o, F0 a = some o → F a = some o
  len : k ≤ m.length
  agr : ∀ n, n < k → ρ n = ρ0 n
theorem On.refl {ρ : Rho} {F : Hp} {m : Mem} : On ρ F m.length ρ F m := ⟨fun _ _ h => h, Nat.le_refl _, fun _ _ => rfl⟩
theorem On.ext {ρ0 ρ ρ1 : Rho} {F0 F F1 : Hp} {k : Nat} {m m1 : Mem} {H H1 : Hp} (h : On ρ0 F0 k ρ F m) (x : Ext ρ F m H ρ1 F1 m1 H1) : On ρ0 F0 k ρ1 F1 m1 :=
  ⟨fun a o e => x.sub a o (h.sub a o e), Nat.le_trans h.len x.len, fun n hn => (x.agr n (Nat.lt_of_lt_of_le hn h.len)).trans (h.agr n hn)⟩
def RIt (g : Gn) : Rho → Hp → Nat → Its → It → Prop := fun ρ0 F0 k t J => ∀ ρ F m H, On ρ0 F0 k ρ F m → MRel g ρ F m H → t.held m → ∀ i,
  (∀ d, t.l[i]? = some d → J.go i H ∧ ∀ x H', J.yld i H x H' → ∃ F', Ext ρ F m H ρ F' m H' ∧ MRel g ρ F' m H' ∧ RD g ρ F' m.length d x) ∧ (t.l[i]? = none → J.stop i H)
abbrev rdIt (g : Gn) (W : WX) (r : Sl → Mem → R Its) : TI := rdX g (RIt g) W r
/-- items that stand as they are -/
theorem it_list (hK : X.K = g.K) {ρ0 : Rho} {F0 : Hp} {k : Nat} {t : Its} {a : Addr} (h : ∀ ρ F m H, On ρ0 F0 k ρ F m → MRel g ρ F m H → t.held m → ∃ vs, H a = some (.lst vs) ∧ RDs g ρ F m.length t.l vs) : RIt g ρ0 F0 k t (Itl X.K a) := by
  intro ρ F m H on M hd i
  obtain ⟨vs, h1, r⟩ := h ρ F m H on M hd
  refine ⟨fun d e => ?_, fun e => ⟨vs, SqL.of h1, ?_⟩⟩
  · obtain ⟨v, e1, r1⟩ := r.get e
    refine ⟨⟨vs, v, SqL.of h1, e1⟩, fun x H' y => ?_⟩
    obtain ⟨rfl, y⟩ := y
    have := y vs (SqL.of h1)
    rw [e1] at this
    cases this
    exact ⟨F, Ext.refl, M, r1⟩
  · rw [← r.length]; exact List.getElem?_eq_none_iff.mp e
theorem it_tup (hK : X.K = g.K) {ρ0 : Rho} {F0 : Hp} {k : Nat} {t : Its} {a : Addr} (h : ∀ ρ F m H, On ρ0 F0 k ρ F m → MRel g ρ F m H → ∃ vs, SqT g.K H a vs ∧ RDs g ρ F m.length t.l vs) : RIt g ρ0 F0 k t (Itt X.K a) := by
  intro ρ F m H on M hd i
  obtain ⟨vs, h1, r⟩ := h ρ F m H on M
  rw [← hK] at h1
  refine ⟨fun d e => ?_, fun e => ⟨vs, h1, ?_⟩⟩
  · obtain ⟨v, e1, r1⟩ := r.get e
    refine ⟨⟨vs, v, h1, e1⟩, fun x H' y => ?_⟩
    obtain ⟨rfl, y⟩ := y
    have := y vs h1
    rw [e1] at this
    cases this
    exact ⟨F, Ext.refl, M, r1⟩
  · rw [← r.length]; exact List.getElem?_eq_none_iff.mp e
theorem MRel.subF {ρ : Rho} {F F0 H : Hp} {m : Mem} (h : ∀ a o, F0 a = some o → F a = some o) (M : MRel g ρ F m H) : Sub F0 H := fun a o e => M.sub a o (h a o e)
theorem RPs.dsOn {ρ ρ0 : Rho} {F F0 : Hp} {k : Nat} {m : Mem} {l : List P} {vs : List V} (on : On ρ0 F0 k ρ F m) (r : RPs g F0 l vs) : RDs g ρ F m.length (l.map D.p) vs := RPs.ds (RPs.up (Sub.of on.sub) r)
/-- e, a sequence -/
theorem i_seq (c : Cok g T' p lv X W cd) {tg e : Expr} {ra : Sl → Mem → R D} (he : PE X e (rdE g W ra)) : PI X tg e (rdIt g W fun δ m => (ra δ m).bind fun x m => oR (itSeq x m) m) := by
  refine ⟨fun pins s σ H R' I ⟨δ, m, ρ, F, M, rs, P⟩ => ?_⟩
  dsimp only at P
  cases q : ra δ m with
  | no => rw [q] at P; exact P.elim
  | ex x m' =>
    rw [q] at P
    exact (pi_list he).run pins s σ H R' I ⟨δ, m, ρ, F, M, rs, by rw [q]; exact P⟩
  | ok d m' =>
    rw [q] at P
    have P : Post g (RIt g) ρ F m H (oR (itSeq d m') m') R' (WE W σ) := P
    have key : ∀ {Q : VK}, (∀ v H' ρ' F', Ext ρ F m H ρ' F' m' H' → MRel g ρ' F' m' H' → RD g ρ' F' m'.length d v → Q v H') → rdE g W ra σ H Q := fun k => ⟨δ, m, ρ, F, M, rs, by rw [q]; exact k⟩
    cases d with
    | p y =>
      cases y with
      | lst l =>
        refine (pi_list he).run pins s σ H R' I (key fun v H' ρ' F' x M' r => ?_)
        cases r with
        | lst h1 t =>
          rename_i a vs
          refine ⟨a, rfl, ⟨vs, SqL.of (M'.sub.lst h1)⟩, P _ _ _ _ x M' (it_list c.K fun ρ2 F2 m2 H2 on M2 _ => ⟨vs, (M2.subF on.sub).lst h1, t.dsOn on⟩)⟩
      | tup l =>
        refine (pi_tup he).run pins s σ H R' I (key fun v H' ρ' F' x M' r => ?_)
        cases r with
        | tup h1 t =>
          rename_i a vs
          refine ⟨a, rfl, ⟨vs, SqT.of (M'.sub.tup h1)⟩, P _ _ _ _ x M' (it_tup c.K fun ρ2 F2 m2 H2 on M2 => ⟨vs, SqT.of ((M2.subF on.sub).tup h1), t.dsOn on⟩)⟩
      | ktp l =>
        refine (pi_tup he).run pins s σ H R' I (key fun v H' ρ' F' x M' r => ?_)
        cases r with
        | ktp h1 t =>
          rename_i a vs
          refine ⟨a, rfl, ⟨vs, by rw [c.K]; exact h1 _⟩, P _ _ _ _ x M' (it_tup c.K fun ρ2 F2 m2 H2 on M2 => ⟨vs, h1 _, t.dsOn on⟩)⟩
      | str z =>
        refine (pi_str he).run pins s σ H R' I (key fun v H' ρ' F' x M' r => ?_)
        cases r
        refine ⟨z, rfl, P _ _ _ _ x M' fun ρ2 F2 m2 H2 on M2 _ i => ?_⟩
        have ez : z.cps.toList[i]? = z.cps[i]? := Array.getElem?_toList ..
        refine ⟨fun d e => ?_, fun e => ?_⟩
        · have e : (z.cps.toList.map fun c => D.p (.str ⟨#[c]⟩))[i]? = some d := e
          rw [List.getElem?_map, ez] at e
          obtain ⟨cc, e1, e2⟩ := Option.map_eq_some_iff.mp e
          refine ⟨(Array.getElem?_eq_some_iff.mp e1).1, fun x' H3 y => ?_⟩
          obtain ⟨rfl, c', e3, rfl⟩ := y
          rw [e1] at e3
          cases e3
          subst e2
          exact ⟨F2, Ext.refl, M2, RP.str _⟩
        · have e : (z.cps.toList.map fun c => D.p (.str ⟨#[c]⟩))[i]? = none := e
          rw [List.getElem?_map, ez] at e
          exact Array.getElem?_eq_none_iff.mp (Option.map_eq_none_iff.mp e)
      | _ => exact P.elim
    | ref n =>
      have P : Post g (RIt g) ρ F m H (oR (match m'.get n with | some (.lst l) => some ⟨l, some n⟩ | _ => none) m') R' (WE W σ) := P
      cases q2 : m'.get n with
      | none => rw [q2] at P; exact P.elim
      | some o =>
        rw [q2] at P
        cases o with
        | lst l =>
          refine (pi_list he).run pins s σ H R' I (key fun v H' ρ' F' x M' r => ?_)
          obtain ⟨ho, rfl, h1, h2⟩ := M'.look q2 r
          obtain ⟨vs, rfl, h3⟩ := rmo_lst h2
          refine ⟨_, rfl, ⟨vs, SqL.of h1⟩, P _ _ _ _ x M' (it_list c.K fun ρ2 F2 m2 H2 on M2 hd => ?_)⟩
          obtain ⟨ho, _, h4, h5⟩ := M2.look (v := .ref (ρ2 n)) hd ⟨Nat.lt_of_lt_of_le r.1 on.len, rfl⟩
          obtain ⟨us, rfl, h6⟩ := rmo_lst h5
          exact ⟨us, by rw [← on.agr n r.1]; exact h4, h6⟩
        | _ => exact P.elim
theorem it_rng {ρ0 : Rho} {F0 : Hp} {k : Nat} {lo : Int} {n : Nat} : RIt g ρ0 F0 k ⟨(List.range n).map fun (j : Nat) => .p (.int (lo + (j : Int))), none⟩ (Itr lo n) := by
  intro ρ F m H on M _ i
  refine ⟨fun d e => ?_, fun e => ?_⟩
  · have e : ((List.range n).map fun (j : Nat) => D.p (.int (lo + (j : Int))))[i]? = some d := e
    rw [List.getElem?_map] at e
    obtain ⟨j, e1, e2⟩ := Option.map_eq_some_iff.mp e
    have hi : i < n := by have := (List.getElem?_eq_some_iff.mp e1).1; simpa using this
    rw [List.getElem?_range hi] at e1
    cases e1
    refine ⟨hi, fun x H' y => ?_⟩
    obtain ⟨rfl, rfl⟩ := y
    subst e2
    exact ⟨F, Ext.refl, M, RP.int _⟩
  · have e : ((List.range n).map fun (j : Nat) => D.p (.int (lo + (j : Int))))[i]? = none := e
    rw [List.getElem?_map] at e
    have := List.getElem?_eq_none_iff.mp (Option.map_eq_none_iff.mp e)
    show n ≤ i
    simpa using this
theorem i_rng (c : Cok g T' p lv X W cd) {tg e : Expr} {np pos : Pos} {ra : Sl → Mem → R D} (hv : isGl cd "range" = true) (he : PE X e (rdE g W ra)) (hn : noStar e = true) : PI X tg (.Call (.Name "range" np) [e] [] pos) (rdIt g W fun δ m => (ra δ m).bind fun x m => oR (itRng x) m) := by
  refine (pi_range1 (c.glb hv) (c.bl "range" (by decide)) (pa_cons he pa_nil (star_cons hn)) (star_cons hn)).imp fun σ H Q h => rdX.bind h fun δ d m ρ F v H' M rs r P => ?_
  unfold itRng at P
  split at P
  · rename_i j
    cases r
    split at P
    · rename_i hj
      refine ⟨j, rfl, hj.1, hj.2, Post.val P M ?_⟩
      have := it_rng (g := g) (ρ0 := ρ) (F0 := F) (k := m.length) (lo := 0) (n := j.toNat)
      simpa using this
    · exact P.elim
  · exact P.elim
theorem i_rng2 (c : Cok g T' p lv X W cd) {tg e e2 : Expr} {np pos : Pos} {ra rb : Sl → Mem → R D} (hv : isGl cd "range" = true) (he : PE X e (rdE g W ra)) (hn : noStar e = true) (he2 : PE X e2 (rdE g W rb)) (hn2 : noStar e2 = true) :
    PI X tg (.Call (.Name "range" np) [e, e2] [] pos) (rdIt g W fun δ m => (ra δ m).bind fun x m => (rb δ m).bind fun y m => oR (itRng2 x y) m) := by
  refine (pi_range2 (c.glb hv) (c.bl "range" (by decide)) (pa_cons he (pa_cons he2 pa_nil (star_cons hn2)) (star_cons hn)) (by rw [star_cons hn, star_cons hn2]; rfl) (star_cons hn2)).imp fun σ H Q h => rdX.bind h fun δ d m ρ F v H' M rs r P => ?_
  refine ⟨δ, m, ρ, F, M, rs, Post.bind P fun d2 m2 v2 H2 ρ2 F2 x2 M2 r2 P2 => ?_⟩
  unfold itRng2 at P2
  split at P2
  · rename_i i j
    have r' := r.mono x2
    cases r'
    cases r2
    split at P2
    · rename_i hj
      exact ⟨i, j, rfl, hj, Post.val P2 M2 it_rng⟩
    · exact P2.elim
  · exact P2.elim
end
end Dn

/-! Dn, part K: zip, enumerate; comprehensions. -/
namespace Dn
open PySem PySem.Spec PyProof.Rows L2
section
variable {g : Gn} {W : WX} {X : Cx} {T' : Tb} {p : Pg} {lv : Nat} {cd : Cd}
theorem RPs.at {F : Hp} : ∀ {l : List P} {vs : List V} {i : Nat} {x : P}, RPs g F l vs → l[i]? = some x → ∃ v, vs[i]? = some v ∧ RP g F x v
  | _, _, i, _, .nil, e => by simp at e
  | _, _, 0, _, .cons h _, e => by simp at e; subst e; exact ⟨_, rfl, h⟩
  | _, _, i + 1, _, .cons _ t, e => by
    obtain ⟨v, e1, r⟩ := RPs.at (i := i) t (by simpa using e)
    exact ⟨v, by simpa using e1, r⟩
theorem zipP_get : ∀ {l r : List P} {i : Nat}, (∀ d, (zipP l r)[i]? = some d → ∃ a b, l[i]? = some a ∧ r[i]? = some b ∧ d = .p (.tup [a, b])) ∧ ((zipP l r)[i]? = none → l.length ≤ i ∨ r.length ≤ i)
  | [], r, i => ⟨fun d e => by simp [zipP] at e, fun _ => .inl (Nat.zero_le _)⟩
  | a :: l, [], i => ⟨fun d e => by simp [zipP] at e, fun _ => .inr (Nat.zero_le _)⟩
  | a :: l, b :: r, 0 => ⟨fun d e => by simp [zipP] at e; exact ⟨a, b, rfl, rfl, e.symm⟩, fun e => by simp [zipP] at e⟩
  | a :: l, b :: r, i + 1 => by
    obtain ⟨h1, h2⟩ := zipP_get (l := l) (r := r) (i := i)
    refine ⟨fun d e => ?_, fun e => ?_⟩
    · obtain ⟨x, y, e1, e2, e3⟩ := h1 d (by simpa [zipP] using e)
      exact ⟨x, y, by simpa using e1, by simpa using e2, e3⟩
    · rcases h2 (by simpa [zipP] using e) with h | h
      · exact .inl (by simpa using h)
      · exact .inr (by simpa using h)
/-- a new pair -/
theorem pair_new {ρ : Rho} {F H : Hp} {m : Mem} {x y : P} {v u : V} {t : Addr} (M : MRel g ρ F m H) (ht : H t = none) (rx : RP g F x v) (ry : RP g F y u) :
    ∃ F', Ext ρ F m H ρ F' m (upd H t (.tup [v, u])) ∧ MRel g ρ F' m (upd H t (.tup [v, u])) ∧ RD g ρ F' m.length (.p (.tup [x, y])) (.ref t) := by
  obtain ⟨x1, M1⟩ := step_pure (ho := .tup [v, u]) M ht
  exact ⟨_, x1, M1, RP.tup upd_same (.cons (RP.up x1.Sub rx) (.cons (RP.up x1.Sub ry) .nil))⟩
theorem it_zip (hK : X.K = g.K) {ρ0 : Rho} {F0 : Hp} {k : Nat} {l r : List P} {a b : Addr} {vs us : List V} (h1 : F0 a = some (.lst vs)) (h2 : F0 b = some (.lst us)) (r1 : RPs g F0 l vs) (r2 : RPs g F0 r us) :
    RIt g ρ0 F0 k ⟨zipP l r, none⟩ (Itz X.K a b) := by
  intro ρ F m H on M _ i
  have q1 := (M.subF on.sub).lst h1
  have q2 := (M.subF on.sub).lst h2
  obtain ⟨z1, z2⟩ := zipP_get (l := l) (r := r) (i := i)
  refine ⟨fun d e => ?_, fun e => ⟨vs, us, SqL.of q1, SqL.of q2, ?_⟩⟩
  · obtain ⟨x, y, e1, e2, rfl⟩ := z1 d e
    obtain ⟨v, e3, p1⟩ := r1.at e1
    obtain ⟨u, e4, p2⟩ := r2.at e2
    refine ⟨⟨vs, us, v, u, SqL.of q1, SqL.of q2, e3, e4⟩, fun w H' y' => ?_⟩
    obtain ⟨t, v', u', rfl, ht, rfl, k1, k2⟩ := y'
    have := k1 vs (SqL.of q1)
    rw [e3] at this; cases this
    have := k2 us (SqL.of q2)
    rw [e4] at this; cases this
    exact pair_new M ht (RP.up (Sub.of on.sub) p1) (RP.up (Sub.of on.sub) p2)
  · rw [← r1.length, ← r2.length]; exact z2 e
theorem it_zipT (hK : X.K = g.K) {ρ0 : Rho} {F0 : Hp} {k : Nat} {l r : List P} {a b : Addr} {vs us : List V} (h1 : F0 a = some (.tup vs)) (h2 : F0 b = some (.tup us)) (r1 : RPs g F0 l vs) (r2 : RPs g F0 r us) :
    RIt g ρ0 F0 k ⟨zipP l r, none⟩ (RZ.ItzT X.K a b) := by
  intro ρ F m H on M _ i
  have q1 := (M.subF on.sub).tup h1
  have q2 := (M.subF on.sub).tup h2
  obtain ⟨z1, z2⟩ := zipP_get (l := l) (r := r) (i := i)
  refine ⟨fun d e => ?_, fun e => ⟨vs, us, SqT.of q1, SqT.of q2, ?_⟩⟩
  · obtain ⟨x, y, e1, e2, rfl⟩ := z1 d e
    obtain ⟨v, e3, p1⟩ := r1.at e1
    obtain ⟨u, e4, p2⟩ := r2.at e2
    refine ⟨⟨vs, us, v, u, SqT.of q1, SqT.of q2, e3, e4⟩, fun w H' y' => ?_⟩
    obtain ⟨t, v', u', rfl, ht, rfl, k1, k2⟩ := y'
    have := k1 vs (SqT.of q1)
    rw [e3] at this; cases this
    have := k2 us (SqT.of q2)
    rw [e4] at this; cases this
    exact pair_new M ht (RP.up (Sub.of on.sub) p1) (RP.up (Sub.of on.sub) p2)
  · rw [← r1.length, ← r2.length]; exact z2 e
theorem i_zip (c : Cok g T' p lv X W cd) {tes : List Expr} {kk : Nat} {tp : Pos} {e e2 : Expr} {np pos : Pos} {ra rb : Sl → Mem → R D} (hv : isGl cd "zip" = true) (he : PE X e (rdE g W ra)) (hn : noStar e = true) (he2 : PE X e2 (rdE g W rb)) (hn2 : noStar e2 = true) :
    PI X (.Tuple tes kk tp) (.Call (.Name "zip" np) [e, e2] [] pos) (rdIt g W fun δ m => (ra δ m).bind fun x m => (rb δ m).bind fun y m => oR (itZip x y) m) := by
  refine (RZ.pi_zipA (c.glb hv) (c.bl "zip" (by decide)) (pa_cons he (pa_cons he2 pa_nil (star_cons hn2)) (star_cons hn)) (star_cons hn) (plain_any (by rw [List.all_cons, hn2]; rfl))).imp fun σ H Q h => rdX.bind h fun δ d m ρ F v H' M rs r P => ?_
  refine ⟨δ, m, ρ, F, M, rs, Post.bind P fun d2 m2 v2 H2 ρ2 F2 x2 M2 r2 P2 => ?_⟩
  have r' := r.mono x2
  unfold itZip at P2
  split at P2
  · cases r' with
    | lst h1 t1 => cases r2 with
      | lst h2 t2 => exact ⟨_, _, _, _, rfl, .inl ⟨SqL.of (M2.sub.lst h1), SqL.of (M2.sub.lst h2), Post.val P2 M2 (it_zip c.K h1 h2 t1 t2)⟩⟩
  · cases r' with
    | tup h1 t1 => cases r2 with
      | tup h2 t2 => exact ⟨_, _, _, _, rfl, .inr ⟨SqT.of (M2.sub.tup h1), SqT.of (M2.sub.tup h2), Post.val P2 M2 (it_zipT c.K h1 h2 t1 t2)⟩⟩
  · exact P2.elim
theorem enumP_get : ∀ {l : List P} {k i : Nat}, (∀ d, (enumP k l)[i]? = some d → ∃ a, l[i]? = some a ∧ d = .p (.tup [.int ((k + i : Nat) : Int), a])) ∧ ((enumP k l)[i]? = none → l.length ≤ i)
  | [], k, i => ⟨fun d e => by simp [enumP] at e, fun _ => Nat.zero_le _⟩
  | a :: l, k, 0 => ⟨fun d e => by simp [enumP] at e; exact ⟨a, rfl, e.symm⟩, fun e => by simp [enumP] at e⟩
  | a :: l, k, i + 1 => by
    obtain ⟨h1, h2⟩ := enumP_get (l := l) (k := k + 1) (i := i)
    refine ⟨fun d e => ?_, fun e => ?_⟩
    · obtain ⟨x, e1, e3⟩ := h1 d (by simpa [enumP] using e)
      exact ⟨x, by simpa using e1, by rw [e3, show k + 1 + i = k + (i + 1) by omega]⟩
    · simpa using h2 (by simpa [enumP] using e)
theorem i_enum (c : Cok g T' p lv X W cd) {tes : List Expr} {kk : Nat} {tp : Pos} {e : Expr} {np pos : Pos} {ra : Sl → Mem → R D} (hv : isGl cd "enumerate" = true) (he : PE X e (rdE g W ra)) (hn : noStar e = true) :
    PI X (.Tuple tes kk tp) (.Call (.Name "enumerate" np) [e] [] pos) (rdIt g W fun δ m => (ra δ m).bind fun x m => oR (itEnum x) m) := by
  refine (pi_enum (c.glb hv) (c.bl "enumerate" (by decide)) (pa_cons he pa_nil (star_cons hn)) (star_cons hn)).imp fun σ H Q h => rdX.bind h fun δ d m ρ F v H' M rs r P => ?_
  unfold itEnum at P
  split at P
  · cases r with
    | lst h1 t1 =>
      rename_i l a vs
      refine ⟨a, vs, rfl, SqL.of (M.sub.lst h1), Post.val P M fun ρ2 F2 m2 H2 on M2 _ i => ?_⟩
      have q1 := (M2.subF on.sub).lst h1
      obtain ⟨z1, z2⟩ := enumP_get (l := l) (k := 0) (i := i)
      refine ⟨fun d e => ?_, fun e => ⟨vs, SqL.of q1, by rw [← t1.length]; exact z2 e⟩⟩
      obtain ⟨x, e1, rfl⟩ := z1 d e
      obtain ⟨v, e3, p1⟩ := t1.at e1
      refine ⟨⟨vs, v, SqL.of q1, e3⟩, fun w H3 y' => ?_⟩
      obtain ⟨t, v', rfl, ht, rfl, k1⟩ := y'
      have := k1 vs (SqL.of q1)
      rw [e3] at this; cases this
      rw [Nat.zero_add]
      exact pair_new M2 ht (RP.int _) (RP.up (Sub.of on.sub) p1)
  · exact P.elim
end
end Dn

/-! Dn, part L: comprehensions. -/
namespace Dn
open PySem PySem.Spec PyProof.Rows L2
/-! ### a heap without one object -/
def hide (L : Addr) (H : Hp) : Hp := fun a => if a = L then none else H a
theorem hide_self {L : Addr} {H : Hp} : hide L H L = none := if_pos rfl
theorem hide_ne {L a : Addr} {H : Hp} (h : a ≠ L) : hide L H a = H a := if_neg h
theorem hide_upd {L : Addr} {H : Hp} {o : HO} : hide L (upd H L o) = hide L H := by
  funext a
  unfold hide
  split
  · rfl
  · rename_i h; exact upd_ne h
theorem hide_none {L : Addr} {H : Hp} (h : H L = none) : hide L H = H := by
  funext a
  unfold hide
  split
  · rename_i e; rw [e, h]
  · rfl
theorem upd_hide {L : Addr} {H : Hp} {o : HO} (h : H L = some o) : upd (hide L H) L o = H := by
  funext a
  by_cases e : a = L
  · rw [e, upd_same, h]
  · rw [upd_ne e, hide_ne e]
theorem hide_some {L a : Addr} {H : Hp} {o : HO} (h : hide L H a = some o) : a ≠ L ∧ H a = some o := by
  unfold hide at h
  split at h
  · cases h
  · rename_i e; exact ⟨e, h⟩
section
variable {g : Gn} {ρ ρ1 : Rho} {F F1 H H1 : Hp} {m m1 : Mem} {L : Addr}
theorem Ext.hide (x : Ext ρ F m H ρ1 F1 m1 H1) : Ext ρ F m (hide L H) ρ1 F1 m1 (hide L H1) where
  sub := x.sub
  len := x.len
  agr := x.agr
  dead := x.dead
  fresh := fun n h l => by
    have := x.fresh n h l
    unfold Dn.hide
    split
    · rfl
    · exact this
  frame := fun a o h hl => by
    obtain ⟨h1, h2⟩ := hide_some h
    rw [hide_ne h1]
    exact x.frame a o h2 hl
  there := fun a o h => by
    obtain ⟨h1, h2⟩ := hide_some h
    rw [hide_ne h1]
    exact x.there a o h2
  new := fun a o h => by
    rcases x.new a o h with h | h | h
    · exact .inl h
    · refine .inr (.inl ?_)
      unfold Dn.hide
      split
      · rfl
      · exact h
    · exact .inr (.inr h)
theorem MRel.unhide (M : MRel g ρ F m (hide L H)) : MRel g ρ F m H where
  sub := fun a o e => by
    rcases M.sub a o e with h | ⟨z, od, h⟩
    · exact .inl (hide_some h).2
    · exact .inr ⟨z, od, (hide_some h).2⟩
  mem := fun n o e => by
    obtain ⟨f, ho, h, r⟩ := M.mem n o e
    exact ⟨f, ho, (hide_some h).2, r⟩
  inj := M.inj
/-- the hidden one stays -/
theorem MRel.hidden (M : MRel g ρ F m (hide L H)) {o : HO} (hL : H L = some o) (x : Ext ρ F m H ρ1 F1 m1 H1) (M1 : MRel g ρ1 F1 m1 H1) : MRel g ρ1 F1 m1 (hide L H1) ∧ H1 L = some o := by
  have nl : ∀ n, Live m n → ρ n ≠ L := fun n ⟨u, e⟩ z => by
    obtain ⟨_, ho, h, _⟩ := M.mem n u e
    exact (hide_some h).1 z
  have nF : F1 L = none := by
    cases e : F1 L with
    | none => rfl
    | some u =>
      rcases x.new L u e with h | h | ⟨n, l, z⟩
      · have := M.free (hide_self (L := L) (H := H))
        rw [h] at this; cases this
      · rw [hL] at h; cases h
      · exact absurd z (nl n l)
  have nl1 : ∀ n, Live m1 n → ρ1 n ≠ L := fun n l z => by
    by_cases hn : n < m.length
    · rw [x.agr n hn] at z
      exact nl n (x.live hn l) z
    · have := x.fresh n (Nat.not_lt.mp hn) l
      rw [z, hL] at this; cases this
  refine ⟨⟨fun a u e => ?_, fun n u e => ?_, M1.inj⟩, x.frame L o hL nl⟩
  · have ne : a ≠ L := fun z => by rw [z, nF] at e; cases e
    rw [hide_ne ne]
    exact M1.sub a u e
  · obtain ⟨f, ho, h, r⟩ := M1.mem n u e
    exact ⟨f, ho, by rw [hide_ne (nl1 n ⟨u, e⟩)]; exact h, r⟩
end

/-! ### slots -/
theorem wipe_at {σ : L2.St} : ∀ {vs : List Nat} {i : Nat}, (wipe σ vs)[i]? = if i ∈ vs then (if i < σ.length then some none else none) else σ[i]?
  | [], i => by simp [wipe]
  | v :: vs, i => by
    unfold wipe
    by_cases e : v = i
    · subst e
      rw [if_pos List.mem_cons_self]
      by_cases hv : v < σ.length
      · rw [if_pos hv, List.getElem?_set_self (by rw [wipe_length]; exact hv)]
      · rw [if_neg hv]
        exact List.getElem?_eq_none (by simpa [wipe_length] using hv)
    · rw [List.getElem?_set_ne e, wipe_at (vs := vs)]
      have : (i ∈ v :: vs) ↔ i ∈ vs := by simp [Ne.symm e]
      simp only [this]
theorem wipe_same {σ σ2 : L2.St} {vs l : List Nat} (hl : ∀ i ∈ l, i ∈ vs) (h : Same l (wipe σ vs) σ2) : wipe σ2 vs = wipe σ vs := by
  have len : σ2.length = σ.length := by rw [h.1, wipe_length]
  apply List.ext_getElem?
  intro i
  rw [wipe_at, wipe_at]
  split
  · rw [len]
  · rename_i hi
    rw [h.2 i fun z => hi (hl i z), wipe_at, if_neg hi]
theorem RSl.wipe {g : Gn} {ρ : Rho} {F : Hp} {k : Nat} {δ : List (Option D)} {σ : L2.St} (h : RSl g ρ F k δ σ) : ∀ vs : List Nat, RSl g ρ F k (wipeD δ vs) (L2.wipe σ vs)
  | [] => h
  | v :: vs => (RSl.wipe h vs).wipe1 v

/-! ### the run -/
theorem calm_post {α β γ : Type} {g : Gn} {rel : Rho → Hp → Nat → β → γ → Prop} {ρ : Rho} {F : Hp} {m : Mem} {H : Hp} {r : R α} {K : α → Mem → R β} {Q : γ → Hp → Prop} {E : XK} (h : Post g rel ρ F m H (r.calm.bind K) Q E) : ∃ a m1, r = .ok a m1 ∧ Post g rel ρ F m H (K a m1) Q E := by
  cases r with
  | ok a m1 => exact ⟨a, m1, rfl, h⟩
  | ex x m1 => exact h.elim
  | no => exact h.elim
theorem calm_bind {α β : Type} {r : R α} {f : α → Mem → R β} : (r.bind f).calm = r.calm.bind fun a m => (f a m).calm := by cases r <;> rfl
theorem bind_bind {α β γ : Type} {r : R α} {f : α → Mem → R β} {k : β → Mem → R γ} : (r.bind f).bind k = r.bind fun a m => (f a m).bind k := by cases r <;> rfl
theorem bind_ext {α β : Type} {r : R α} {f k : α → Mem → R β} (h : ∀ a m, f a m = k a m) : r.bind f = r.bind k := by cases r <;> first | exact h _ _ | rfl
theorem lcRun_calm {f : D → Mem → R (Option D)} {t : Its} : ∀ {l : List D} {m : Mem} {x : Ex} {m1 : Mem}, lcRun f t l m ≠ .ex x m1
  | [], m, x, m1 => by
    unfold lcRun
    split <;> (intro h; cases h)
  | d :: l, m, x, m1 => by
    unfold lcRun
    split
    · intro h
      cases q : f d m with
      | ok o m2 =>
        rw [q] at h
        have h : ((lcRun f t l m2).bind fun ys m2 => R.ok (o.toList ++ ys) m2) = .ex x m1 := h
        cases q2 : lcRun f t l m2 with
        | ok ys m3 => rw [q2] at h; cases h
        | ex y m3 => exact lcRun_calm q2
        | no => rw [q2] at h; cases h
      | ex _ _ => rw [q] at h; cases h
      | no => rw [q] at h; cases h
    · intro h; cases h
theorem lc_len {g : Gn} {ρ : Rho} {F : Hp} {m : Mem} {H : Hp} {f : D → Mem → R (Option D)} {t : Its} {l : List D} {m1 : Mem} {mu : Bool} {ad : List D} {Q : VK} {E : XK} (h : PostD g ρ F m H ((lcRun f t l m1).bind fun ys m => mkL mu (ad ++ ys) m) Q E) : ad.length ≤ sizeLine := by
  cases q : lcRun f t l m1 with
  | ok ys m2 =>
    rw [q] at h
    have h : PostD g ρ F m H (mkL mu (ad ++ ys) m2) Q E := h
    unfold mkL at h
    split at h
    · rename_i hl
      rw [List.length_append] at hl
      omega
    · exact h.elim
  | ex x m2 => exact absurd q lcRun_calm
  | no => rw [q] at h; exact h.elim
abbrev W0 : WX := fun _ _ _ _ => False
section
variable {g : Gn} {W : WX} {X : Cx} {T' : Tb} {p : Pg} {lv : Nat} {cd : Cd}
/-- one turn's reading -/
def turn (rc : Sl → Mem → R Bool) (re : Sl → Mem → R D) (t : T) (δ : Sl) : D → Mem → R (Option D) := fun x m => (oR (asgT t x m δ) m).bind fun δ' m => (rc δ' m).bind fun k m => if k then (re δ' m).bind fun y m => .ok (some y) m else .ok none m
theorem e_lc (c : Cok g T' p lv X W cd) {mu : Bool} {elt tg iter : Expr} {ifs : List Expr} {scope : Scope} {own : List (Str × Nat)} {pos : Pos} {t : T} {rt : Sl → Mem → R Its} {rc : Sl → Mem → R Bool} {re : Sl → Mem → R D}
    (hi : PI X tg iter (rdIt g W rt)) (ok : BlkOk X.N X.env.scope scope own) (ho : ∀ i ∈ t.ixs, i ∈ own.map (·.2))
    (hg : ∀ (s : Shared) (H : Hp) (C : Addr) (cl : List (Str × Addr)) (fp : List Addr), PG (X.blk s H scope (compEnvC scope cl C X.env) fp) tg (rdG g t))
    (ht : ∀ (s : Shared) (H : Hp) (C : Addr) (cl : List (Str × Addr)) (fp : List Addr), PTs (X.blk s H scope (compEnvC scope cl C X.env) fp) ifs (rdT g W0 rc))
    (he : ∀ (s : Shared) (H : Hp) (C : Addr) (cl : List (Str × Addr)) (fp : List Addr), PE (X.blk s H scope (compEnvC scope cl C X.env) fp) elt (rdE g W0 re)) {σ : L2.St} {H : Hp} {Q : VK}
    (h : rdE g W (fun δ m => (rt δ m).bind fun its m => (lcRun (turn rc re t (wipeD δ (own.map (·.2)))) its its.l m).bind (mkL mu)) σ H Q) :
    tLc (rdIt g W rt) (rdG g t) (rdT g W0 rc) (rdE g W0 re) (own.map (·.2)) σ H Q := by
  refine rdX.bind h fun δ its m ρ F J H1 M rs RJ P => fun L hL => ?_
  generalize hf : turn rc re t (wipeD δ (own.map (·.2))) = f at P
  generalize hvs : own.map (·.2) = vs at *
  let Iv : Nat → Hp → Prop := fun i Hc => ∃ (ad : List D) (av : List V) (m' : Mem) (ρ' : Rho) (F' : Hp), Ext ρ F m H1 ρ' F' m' (hide L Hc) ∧ MRel g ρ' F' m' (hide L Hc) ∧ Hc L = some (.lst av) ∧ RDs g ρ' F' m'.length ad av ∧
    PostD g ρ' F' m' (hide L Hc) ((lcRun f its (its.l.drop i) m').bind fun ys m => mkL mu (ad ++ ys) m) Q (WE W σ)
  have iv0 : Iv 0 (upd H1 L (.lst [])) := by
    refine ⟨[], [], m, ρ, F, ?_, ?_, upd_same, trivial, ?_⟩
    · rw [hide_upd, hide_none hL]; exact Ext.refl
    · rw [hide_upd, hide_none hL]; exact M
    · rw [hide_upd, hide_none hL]; exact P
  refine ⟨fun i n Hc => n = its.l.length - i ∧ i ≤ its.l.length ∧ Iv i Hc, ⟨_, rfl, Nat.zero_le _, iv0⟩, ?_⟩
  rintro i n Hc ⟨rfl, hi', ad, av, m', ρ', F', x1, M1, hc, rd, P1⟩
  have on : On ρ F m.length ρ' F' m' := On.refl.ext x1
  by_cases hlt : i < its.l.length
  · have hdrop : its.l.drop i = its.l[i] :: its.l.drop (i + 1) := List.drop_eq_getElem_cons hlt
    rw [hdrop] at P1
    unfold lcRun at P1
    split at P1
    · rename_i held
      obtain ⟨go, yl⟩ := (RJ ρ' F' m' Hc on M1.unhide held i).1 its.l[i] (List.getElem?_eq_getElem hlt)
      refine .inr ⟨go, Iv (i + 1), fun H' q => ⟨_, by omega, rfl, hlt, q⟩, fun xv H' y => ?_⟩
      obtain ⟨F2, x2, M2, r2⟩ := yl xv H' y
      obtain ⟨M2h, hc2⟩ := M1.hidden hc x2 M2
      have P2 := Post.on (x2.hide (L := L)) P1
      rw [bind_bind] at P2
      obtain ⟨o, m3, eo, P3⟩ := calm_post P2
      -- the turn
      rw [← hf] at eo
      unfold turn at eo
      cases ea : asgT t its.l[i] m' (wipeD δ vs) with
      | none => rw [ea] at eo; cases eo
      | some δ' =>
        rw [ea] at eo
        have eo : ((rc δ' m').bind fun k m => if k then (re δ' m).bind fun y m => R.ok (some y) m else .ok none m) = .ok o m3 := eo
        have rs2 : RSl g ρ' F2 m'.length (wipeD δ vs) (wipe σ vs) := RSl.wipe ((rs.mono x1).mono (x2.hide (L := L))) vs
        refine ⟨its.l[i], wipeD δ vs, m', ρ', F2, δ', M2, r2, rs2, ea, fun σ2 rs3 same => ⟨wipe_same ho same, ?_⟩⟩
        cases ec : rc δ' m' with
        | no => rw [ec] at eo; cases eo
        | ex _ _ => rw [ec] at eo; cases eo
        | ok k m4 =>
          rw [ec] at eo
          have eo : (if k then (re δ' m4).bind fun y m => R.ok (some y) m else .ok none m4) = .ok o m3 := eo
          refine ⟨δ', m', ρ', F2, M2, rs3, ?_⟩
          rw [ec]
          intro v H4 ρ4 F4 x4 M4 ev
          subst ev
          obtain ⟨M4h, hc4⟩ := M2h.hidden hc2 x4 M4
          have P4 := Post.on (x4.hide (L := L)) P3
          cases v with
          | false =>
            rw [if_neg (by simp)] at eo ⊢
            injection eo with e1 e2
            subst e1 e2
            refine ⟨ad, av, m4, ρ4, F4, (x1.trans (x2.hide (L := L))).trans x4.hide, M4h, hc4, (rd.mono (x2.hide (L := L))).mono (x4.hide (L := L)), ?_⟩
            rw [bind_bind] at P4
            exact P4
          | true =>
            rw [if_pos rfl] at eo ⊢
            refine ⟨δ', m4, ρ4, F4, M4, rs3.mono x4, ?_⟩
            cases er : re δ' m4 with
            | no => rw [er] at eo; cases eo
            | ex _ _ => rw [er] at eo; cases eo
            | ok y m5 =>
              rw [er] at eo
              have eo : R.ok (some y) m5 = R.ok o m3 := eo
              injection eo with e1 e2
              subst e1 e2
              intro yv H5 ρ5 F5 x5 M5 r5
              obtain ⟨M5h, hc5⟩ := M4h.hidden hc4 x5 M5
              have P5 := Post.on (x5.hide (L := L)) P4
              have e5 : ((lcRun f its (its.l.drop (i + 1)) m5).bind fun ys m => mkL mu (ad ++ [y] ++ ys) m) = ((lcRun f its (its.l.drop (i + 1)) m5).bind fun ys m2 => R.ok ((some y).toList ++ ys) m2).bind fun ys m => mkL mu (ad ++ ys) m := by
                rw [bind_bind]
                refine bind_ext fun a m => ?_
                rw [List.append_assoc]
                rfl
              rw [← e5] at P5
              have rd5 := ((rd.mono (x2.hide (L := L))).mono (x4.hide (L := L))).mono (x5.hide (L := L))
              have hl := lc_len P5
              rw [List.length_append] at hl
              have hl2 := rd.length
              refine ⟨av, hc5, by simp at hl; omega, ad ++ [y], av ++ [yv], m5, ρ5, F5, ?_, ?_, upd_same, rd5.append ⟨r5, trivial⟩, ?_⟩
              · rw [hide_upd]; exact ((x1.trans (x2.hide (L := L))).trans x4.hide).trans x5.hide
              · rw [hide_upd]; exact M5h
              · rw [hide_upd]; exact P5
    · exact P1.elim
  · have e : i = its.l.length := by omega
    subst e
    rw [List.drop_length] at P1
    unfold lcRun at P1
    split at P1
    · rename_i held
      refine .inl ⟨(RJ ρ' F' m' Hc on M1.unhide held _).2 (List.getElem?_eq_none (Nat.le_refl _)), ?_⟩
      have P2 : PostD g ρ' F' m' (hide L Hc) (mkL mu (ad ++ []) m') Q (WE W σ) := P1
      rw [List.append_nil] at P2
      have := (mkL_post P2 M1 rd).2 L hide_self
      rw [upd_hide hc] at this
      exact this
    · exact P1.elim
end
end Dn

/-! Dn, part M: the check of expressions; it is enough. -/
namespace Dn
open PySem PySem.Spec PyProof.Rows L2

/-! ### keywords -/
theorem _root_.L2.PK.imp {X : Cx} {e : List Keyword} {t t' : TA} (h : PK X e t) (k : ∀ σ H Q, t' σ H Q → t σ H Q) : PK X e t' := ⟨fun pos pins s σ H Q I q => h.run pos pins s σ H Q I (k σ H Q q)⟩
def kwNames : List Keyword → Option (List Str)
  | [] => some []
  | ⟨some n, _, _⟩ :: l => (kwNames l).map (n :: ·)
  | ⟨none, _, _⟩ :: _ => none
theorem kw_ok {pos : Pos} {env : Env} : ∀ {l : List Keyword} {ks : List Str}, kwNames l = some ks → (backToKw pos (keywordEach l env)).all (·.1.isSome) = true ∧ (backToKw pos (keywordEach l env)).filterMap (·.1) = ks ∧ (backToKw pos (keywordEach l env)).any (·.1.isNone) = false
  | [], ks, h => by cases h; exact ⟨rfl, rfl, rfl⟩
  | ⟨some n, e, kp⟩ :: l, ks, h => by
    obtain ⟨ks', h1, rfl⟩ := Option.map_eq_some_iff.mp (show (kwNames l).map (n :: ·) = some ks from h)
    obtain ⟨a, b, c⟩ := kw_ok (pos := pos) (env := env) h1
    refine ⟨?_, ?_, ?_⟩
    · show (true && (backToKw pos (keywordEach l env)).all (·.1.isSome)) = true
      rw [a]; rfl
    · show n :: (backToKw pos (keywordEach l env)).filterMap (·.1) = _
      rw [b]
    · show (false || (backToKw pos (keywordEach l env)).any (·.1.isNone)) = false
      rw [c]; rfl
  | ⟨none, _, _⟩ :: _, _, h => by cases h
section
variable {g : Gn} {W : WX} {X : Cx} {T : Tb} {p : Pg} {lv : Nat} {cd : Cd}
theorem perm_get {ρ : Rho} {F : Hp} {k : Nat} {l : List D} {vs : List V} (r : RDs g ρ F k l vs) : ∀ (pm : List Nat), (∀ i ∈ pm, i < l.length) → RDs g ρ F k (pm.filterMap (l[·]?)) (pm.filterMap (vs[·]?))
  | [], _ => trivial
  | i :: pm, h => by
    have hi := h i List.mem_cons_self
    have e : l[i]? = some l[i] := List.getElem?_eq_getElem hi
    obtain ⟨v, e1, r1⟩ := r.get e
    rw [List.filterMap_cons, List.filterMap_cons, e, e1]
    exact ⟨r1, perm_get r pm fun j hj => h j (List.mem_cons_of_mem _ hj)⟩
theorem perm_len {α : Type} {l : List α} : ∀ (pm : List Nat), (∀ i ∈ pm, i < l.length) → (pm.filterMap (l[·]?)).length = pm.length
  | [], _ => rfl
  | i :: pm, h => by
    have hi := h i List.mem_cons_self
    have e : l[i]? = some l[i] := List.getElem?_eq_getElem hi
    rw [List.filterMap_cons, e]
    exact congrArg Nat.succ (perm_len pm fun j hj => h j (List.mem_cons_of_mem _ hj))
theorem run_kw (c : Cok g T p lv X W cd) {f np : Nat} {a : Addr} {fd : FuncData} {ps ks : List Str} {pm : List Nat} {pins : List (Addr × Obj)} {σ : L2.St} {H : Hp} {s : Shared} {Q : VK} {us ws : List Value} {vs zs : List V}
    (Fn : FnOk X.prog X.w X.K X.mg X.base (L2.CX X.prog X.w) (lv + 2) a fd ps (fun vs H Q E => vs.length = ps.length ∧ ∃ ds m ρ F, MRel g ρ F m H ∧ RDs g ρ F m.length ds vs ∧ PostD g ρ F m H (callAt p lv f ds m) Q E))
    (hp : pm.length = ps.length) (hi : ∀ i ∈ pm, i < np + ks.length) (hb : KBn X.K fd ps np ks (permL pm) (permL pm))
    (I : Inv X pins σ H s) (r : Vals vs us) (rz : Vals zs ws) (l1 : vs.length = np) (l2 : zs.length = ks.length) {ds es : List D} {m : Mem} {ρ : Rho} {F : Hp} (M : MRel g ρ F m H) (rd : RDs g ρ F m.length ds vs) (re : RDs g ρ F m.length es zs)
    (h : PostD g ρ F m H (callAt p lv f (permL pm ds es) m) Q (WE W σ)) : wpAny (model X.prog X.w) X.A (call (.ref a) us (ks.zip ws)) (EP X pins σ Q) X.xe s := by
  have r2 := hb.rel r rz
  have hi' : ∀ i ∈ pm, i < (ds ++ es).length := fun i q => by rw [List.length_append, rd.length, re.length, l1, l2]; exact hi i q
  have hi2 : ∀ i ∈ pm, i < (vs ++ zs).length := fun i q => by rw [List.length_append, l1, l2]; exact hi i q
  refine wpAny_call (codeAny_mono (Fn.run X.A X.stack s H ⟨us, ks.zip ws⟩ (permL pm us ws) (permL pm vs zs) Q (WE W σ) c.room I.env0 (hb.to s us ws I.kIn (r.length.symm.trans l1) (rz.length.symm.trans l2)) r2
    ⟨(perm_len pm hi2).trans hp, _, m, ρ, F, M, perm_get (rd.append re) pm hi', h⟩) fun r s' hq => ?_)
  cases r with
  | error e => exact c.tk e s' (XE.of_call I (fun _ _ _ h => h) hq)
  | ok fl =>
    cases fl with
    | ret u => exact I.after hq
    | next => exact False.elim hq
    | brk => exact False.elim hq
    | cont => exact False.elim hq
theorem k_nil : PK X [] (rdA g W fun _ m => .ok [] m) := pk_nil.imp fun σ H Q ⟨δ, m, ρ, F, M, rs, P⟩ => P.val M trivial
theorem k_cons {n : Option Str} {kp : Pos} {e : Expr} {es : List Keyword} {ra : Sl → Mem → R D} {rl : Sl → Mem → R (List D)} (he : PE X e (rdE g W ra)) (hl : PK X es (rdA g W rl)) :
    PK X (⟨n, e, kp⟩ :: es) (rdA g W fun δ m => (ra δ m).bind fun x m => (rl δ m).bind fun xs m => .ok (x :: xs) m) := by
  refine (pk_cons he hl).imp fun σ H Q h => rdX.bind h fun δ d m ρ F v H' M rs r P => ?_
  exact ⟨δ, m, ρ, F, M, rs, P.bind fun l m2 vs H2 ρ2 F2 x2 M2 r2 P2 => P2.val M2 ⟨r.mono x2, r2⟩⟩
/-- how many values come -/
theorem e_callK (c : Cok g T p lv X W cd) {f np : Nat} {x : Str} {npos pos : Pos} {e : Expr} {es : List Expr} {kws : List Keyword} {ks : List Str} {pm : List Nat} {rl rk : Sl → Mem → R (List D)} (hf : T.fn f = some x) (hpm : T.kw f np ks = some pm) (hv : isGl cd x = true) (hd : nodb x = true)
    (hl : PA X (e :: es) (rdA g W rl)) (hk : PK X kws (rdA g W rk)) (hn : (e :: es).all noStar = true) (hks : kwNames kws = some ks) (h1 : ∀ δ m xs m', rl δ m = .ok xs m' → xs.length = np) (h2 : ∀ δ m xs m', rk δ m = .ok xs m' → xs.length = ks.length) :
    PE X (.Call (.Name x npos) (e :: es) kws pos) (rdE g W fun δ m => (rl δ m).bind fun xs m => (rk δ m).bind fun zs m => callAt p lv f (permL pm xs zs) m) := by
  obtain ⟨a, fd, ps, q1, q2, Fn, q3, q4, q5⟩ := c.callK f x np ks pm hf hpm
  refine ⟨fun pins s σ H Q I h => ?_⟩
  refine wpAny_Call_Name_kw (ld_glob I (c.glb hv) q1 ?_ (nodb_ok hd).1)
  obtain ⟨k1, k2, k3⟩ := kw_ok (pos := pos) (env := X.env) hks
  have h' : rdA g W rl σ H fun vs H1 => rdA g W rk σ H1 fun zs H2 => vs.length = np ∧ zs.length = ks.length ∧ ∃ ds es m ρ F, MRel g ρ F m H2 ∧ RDs g ρ F m.length ds vs ∧ RDs g ρ F m.length es zs ∧ PostD g ρ F m H2 (callAt p lv f (permL pm ds es) m) Q (WE W σ) := by
    obtain ⟨δ, m, ρ, F, M, rs, P⟩ := h
    dsimp only at P
    cases e1 : rl δ m with
    | no => rw [e1] at P; exact P.elim
    | ex z m' => rw [e1] at P; exact ⟨δ, m, ρ, F, M, rs, by rw [e1]; exact P⟩
    | ok xs m' =>
      rw [e1] at P
      refine ⟨δ, m, ρ, F, M, rs, ?_⟩
      rw [e1]
      intro vs H1 ρ1 F1 x1 M1 r1
      have P1 := Post.on x1 (show PostD g ρ F m H ((rk δ m').bind fun zs m => callAt p lv f (permL pm xs zs) m) Q (WE W σ) from P)
      cases e2 : rk δ m' with
      | no => rw [e2] at P1; exact P1.elim
      | ex z m2 => rw [e2] at P1; exact ⟨δ, m', ρ1, F1, M1, rs.mono x1, by rw [e2]; exact P1⟩
      | ok zs m2 =>
        rw [e2] at P1
        refine ⟨δ, m', ρ1, F1, M1, rs.mono x1, ?_⟩
        rw [e2]
        intro us H2 ρ2 F2 x2 M2 r2
        exact ⟨by rw [← r1.length]; exact h1 _ _ _ _ e1, by rw [← r2.length]; exact h2 _ _ _ _ e2, xs, zs, m2, ρ2, F2, M2, r1.mono x2, r2, Post.on x2 P1⟩
  rw [List.all_cons, Bool.and_eq_true] at hn
  refine PySem.W.callWith_KW (h₀ := X.base) I.ok.mod.kin q2 k1 (thn (hl.run pos pins s σ H _ I h') fun us s1 ⟨vs, H1, I1, r, qk⟩ => ?_) ?_ (star_cons hn.1)
  · refine thn (hk.run pos pins s1 σ H1 _ I1 qk) fun ws s2 ⟨zs, H2, I2, rz, l1, l2, ds, es', m, ρ, F, M, rd, re, q⟩ => ⟨I2.kIn, ?_⟩
    rw [k2]
    exact run_kw c Fn q3 q4 q5 I2 r rz l1 l2 M rd re q
  · rw [k3, Bool.or_false, star_cons hn.1]
    show (false || (backTo pos (starEach es X.env)).any (·.1)) = false
    rw [plain_any hn.2]
    rfl
theorem e_callK0 (c : Cok g T p lv X W cd) {f : Nat} {x : Str} {npos pos : Pos} {kws : List Keyword} {ks : List Str} {pm : List Nat} {rk : Sl → Mem → R (List D)} (hf : T.fn f = some x) (hpm : T.kw f 0 ks = some pm) (hv : isGl cd x = true) (hd : nodb x = true)
    (hk : PK X kws (rdA g W rk)) (hks : kwNames kws = some ks) (h2 : ∀ δ m xs m', rk δ m = .ok xs m' → xs.length = ks.length) :
    PE X (.Call (.Name x npos) [] kws pos) (rdE g W fun δ m => (R.ok [] m).bind fun xs m => (rk δ m).bind fun zs m => callAt p lv f (permL pm xs zs) m) := by
  obtain ⟨a, fd, ps, q1, q2, Fn, q3, q4, q5⟩ := c.callK f x 0 ks pm hf hpm
  refine ⟨fun pins s σ H Q I h => ?_⟩
  refine wpAny_Call_Name_kw (ld_glob I (c.glb hv) q1 ?_ (nodb_ok hd).1)
  obtain ⟨k1, k2, k3⟩ := kw_ok (pos := pos) (env := X.env) hks
  have h' : rdA g W rk σ H fun zs H2 => zs.length = ks.length ∧ ∃ es m ρ F, MRel g ρ F m H2 ∧ RDs g ρ F m.length es zs ∧ PostD g ρ F m H2 (callAt p lv f (permL pm [] es) m) Q (WE W σ) := by
    obtain ⟨δ, m, ρ, F, M, rs, P⟩ := h
    have P : PostD g ρ F m H ((rk δ m).bind fun zs m => callAt p lv f (permL pm [] zs) m) Q (WE W σ) := P
    cases e2 : rk δ m with
    | no => rw [e2] at P; exact P.elim
    | ex z m2 => rw [e2] at P; exact ⟨δ, m, ρ, F, M, rs, by rw [e2]; exact P⟩
    | ok zs m2 =>
      rw [e2] at P
      refine ⟨δ, m, ρ, F, M, rs, ?_⟩
      rw [e2]
      intro us H2 ρ2 F2 x2 M2 r2
      exact ⟨by rw [← r2.length]; exact h2 _ _ _ _ e2, zs, m2, ρ2, F2, M2, r2, Post.on x2 P⟩
  refine PySem.W.callWith_KW0 (h₀ := X.base) I.ok.mod.kin q2 k1 (thn (hk.run pos pins s σ H _ I h') fun ws s2 ⟨zs, H2, I2, rz, l2, es', m, ρ, F, M, re, q⟩ => ⟨I2.kIn, ?_⟩) ?_
  · rw [k2]
    exact run_kw c (us := []) (vs := []) Fn q3 q4 q5 I2 .nil rz rfl l2 M (ds := []) trivial re q
  · rw [k3, Bool.or_false]
    rfl
end
end Dn

/-! Dn, part N: the check of expressions is enough. -/
namespace Dn
open PySem PySem.Spec PyProof.Rows L2
def noIf : Expr → Bool
  | .IfExp .. => false
  | _ => true
def restE (op : BoolOp) (y : Expr) (l : List Expr) (pos : Pos) : Expr := match l with
  | [] => y
  | _ :: _ => .BoolOp op (y :: l) pos
def blkB (cd : Cd) (scope : Scope) (own : List Nat) : Bool :=
  decide (scope.kind = .function) && scope.names.all (fun y => decide (scope.names.lookup y.1 = some y.2)) && own.all (fun i => (cd.N[i]?).isSome) &&
  scope.names.all (fun y => match y.2 with
    | .free => (match cd.sc.names.lookup y.1 with | some .cell => true | some .free => true | _ => false)
    | .local => (own.any fun i => decide (cd.N[i]? = some y.1)) || !decide (y.1 ∈ cd.N)
    | .cell => (own.any fun i => decide (cd.N[i]? = some y.1)) || !decide (y.1 ∈ cd.N)
    | _ => true)
def blkCd (cd : Cd) (scope : Scope) : Cd := ⟨cd.N, relS scope cd.sc, fun x => scope.names.lookup x == some .cell⟩
def RL.plain : RL → Bool
  | .nil => true
  | .cons _ l => l.plain
  | .star _ _ => false
def RL.len : RL → Nat
  | .nil => 0
  | .cons _ l => l.len + 1
  | .star _ l => l.len + 1
mutual
def chkE (T : Tb) (cd : Cd) : RE → Expr → Bool
  | .var i, e => match e with
    | .Name x _ => decide (cd.N[i]? = some x) && isVis cd x && nodb x
    | _ => false
  | .cst x, e => match e with
    | .Constant k _ _ => cstOk x k
    | _ => false
  | .glo n, e => match e with
    | .Name x _ => decide (T.gl n = some x) && isGl cd x && nodb x
    | _ => false
  | .tup l, e => match e with
    | .Tuple es _ _ => chkL T cd l es
    | _ => false
  | .lst _ l, e => match e with
    | .List es _ => chkL T cd l es
    | _ => false
  | .bin o a b, e => match e with
    | .BinOp x op y _ => decide (op = bO o) && chkE T cd a x && chkE T cd b y
    | _ => false
  | .neg a, e => match e with
    | .UnaryOp op x _ => decide (op = .USub) && chkE T cd a x
    | _ => false
  | .cmp o a b, e => match e with
    | .Compare x [op] [y] _ => decide (op = cO o) && chkE T cd a x && chkE T cd b y && noSet y
    | _ => false
  | .cmp2 o o' a b c, e => match e with
    | .Compare x [op, op'] [y, z] _ => decide (op = cO o) && decide (op' = cO o') && chkE T cd a x && chkE T cd b y && chkE T cd c z && noSet z
    | _ => false
  | .and a b, e => match e with
    | .BoolOp op (x :: y :: l) pos => decide (op = .And) && chkE T cd a x && noIf x && chkE T cd b (restE .And y l pos) && noIf (restE .And y l pos)
    | _ => false
  | .or a b, e => match e with
    | .BoolOp op (x :: y :: l) pos => decide (op = .Or) && chkE T cd a x && noIf x && chkE T cd b (restE .Or y l pos) && noIf (restE .Or y l pos)
    | _ => false
  | .not a, e => match e with
    | .UnaryOp op x _ => decide (op = .Not) && chkE T cd a x && noIf x
    | _ => false
  | .ite c a b, e => match e with
    | .IfExp x y z _ => chkE T cd c x && noIf x && chkE T cd a y && chkE T cd b z
    | _ => false
  | .isi a one l, e => match e with
    | .Call (.Name f _) [x, t] [] _ => decide (f = "isinstance") && isGl cd f && chkE T cd a x && noStar x && (match one with
      | true => (match l with | [c] => tysOk T cd [c] [t] | _ => false)
      | false => (match t with | .Tuple es _ _ => decide (l.length ≤ 100) && !l.isEmpty && tysOk T cd l es | _ => false))
    | _ => false
  | .ix a b, e => match e with
    | .Subscript x y _ => chkE T cd a x && chkE T cd b y && noSl y
    | _ => false
  | .sl a lo hi, e => match e with
    | .Subscript x (.Slice l h none _) _ => chkE T cd a x && chkO T cd lo l && chkO T cd hi h
    | _ => false
  | .call f l, e => match e with
    | .Call (.Name x _) es [] _ => decide (T.fn f = some x) && isGl cd x && nodb x && chkL T cd l es && (match es with | [] => true | a :: _ => noStar a)
    | _ => false
  | .callK f l kl pm, e => match e with
    | .Call (.Name x _) es kws _ => decide (T.fn f = some x) && isGl cd x && nodb x && chkL T cd l es && es.all noStar && l.plain && chkK T cd kl kws && kl.plain && (match kwNames kws with | some ks => decide (T.kw f l.len ks = some pm) && decide (kl.len = ks.length) | none => false)
    | _ => false
  | .bcl f l, e => match e with
    | .Call (.Name x _) (a :: es) [] _ => decide (x = Str.ofString (bfN f)) && isGl cd x && chkL T cd l (a :: es) && (a :: es).all noStar
    | _ => false
  | .bmt f a l, e => match e with
    | .Call (.Attribute o x ap) (y :: es) [] pos => decide (x = Str.ofString (bmN f)) && chkE T cd a o && noSup o && chkL T cd l (y :: es) && (y :: es).all noStar && decide ((y :: es).length < 30) && (ap.endLine == pos.line)
    | _ => false
  | .lc _ elt t it c own, e => match e with
    | .ListComp ee [⟨tg, iter, ifs, as⟩] scope _ => decide (as = 0) && chkI T cd it tg iter && blkB cd scope own && t.ixs.all (fun i => decide (i ∈ own)) && chkT (blkCd cd scope) t tg && chkC T (blkCd cd scope) c ifs && chkE T (blkCd cd scope) elt ee && noSet iter
    | _ => false
  | .frz a, e => chkE T cd a e && plainT e
def chkL (T : Tb) (cd : Cd) : RL → List Expr → Bool
  | .nil, es => es.isEmpty
  | .cons a l, es => match es with
    | e :: es => chkE T cd a e && noStar e && chkL T cd l es
    | [] => false
  | .star a l, es => match es with
    | .Starred e _ :: es => chkE T cd a e && chkL T cd l es
    | _ => false
def chkK (T : Tb) (cd : Cd) : RL → List Keyword → Bool
  | .nil, es => es.isEmpty
  | .cons a l, es => match es with
    | ⟨_, e, _⟩ :: es => chkE T cd a e && chkK T cd l es
    | [] => false
  | .star _ _, _ => false
def chkO (T : Tb) (cd : Cd) : RO → Option Expr → Bool
  | .none, o => o.isNone
  | .some a, o => match o with
    | some e => chkE T cd a e
    | none => false
def chkC (T : Tb) (cd : Cd) : RO → List Expr → Bool
  | .none, es => es.isEmpty
  | .some a, es => match es with
    | [e] => chkE T cd a e && noIf e
    | _ => false
def chkI (T : Tb) (cd : Cd) : RI → Expr → Expr → Bool
  | .seq a, _, e => chkE T cd a e
  | .rng a, _, e => match e with
    | .Call (.Name f _) [x] [] _ => decide (f = "range") && isGl cd f && chkE T cd a x && noStar x
    | _ => false
  | .rng2 a b, _, e => match e with
    | .Call (.Name f _) [x, y] [] _ => decide (f = "range") && isGl cd f && chkE T cd a x && noStar x && chkE T cd b y && noStar y
    | _ => false
  | .zip a b, tg, e => match e, tg with
    | .Call (.Name f _) [x, y] [] _, .Tuple _ _ _ => decide (f = "zip") && isGl cd f && chkE T cd a x && noStar x && chkE T cd b y && noStar y
    | _, _ => false
  | .enum a, tg, e => match e, tg with
    | .Call (.Name f _) [x] [] _, .Tuple _ _ _ => decide (f = "enumerate") && isGl cd f && chkE T cd a x && noStar x
    | _, _ => false
end
section
variable {g : Gn} {W : WX} {X : Cx} {T : Tb} {p : Pg} {lv : Nat} {cd : Cd}
theorem len_den {cl : Nat → List D → Mem → R D} {gv : Nat → P} : ∀ {l : RL} {δ : Sl} {m m' : Mem} {xs : List D}, l.plain = true → denL cl gv l δ m = .ok xs m' → xs.length = l.len
  | .nil, δ, m, m', xs, _, h => by unfold denL at h; cases h; rfl
  | .cons a l, δ, m, m', xs, hp, h => by
    unfold denL at h
    cases e : den cl gv a δ m with
    | no => rw [e] at h; cases h
    | ex _ _ => rw [e] at h; cases h
    | ok x m1 =>
      rw [e] at h
      have h : ((denL cl gv l δ m1).bind fun xs m => R.ok (x :: xs) m) = .ok xs m' := h
      cases e2 : denL cl gv l δ m1 with
      | no => rw [e2] at h; cases h
      | ex _ _ => rw [e2] at h; cases h
      | ok ys m2 =>
        rw [e2] at h
        cases h
        exact congrArg Nat.succ (len_den (l := l) hp e2)
  | .star _ _, _, _, _, _, hp, _ => by cases hp
/-- what is known of an expression -/
structure Ev (g : Gn) (p : Pg) (lv : Nat) (re : RE) (W : WX) (X : Cx) (e : Expr) : Prop where
  pe : PE X e (rdE g W (den (callAt p lv) p.gv re))
  pt : noIf e = true → PT X e (rdT g W fun δ m => (den (callAt p lv) p.gv re δ m).bind asB)
  pw : ∀ op l pos, e = .BoolOp op l pos → PW X e (rdT g W fun δ m => (den (callAt p lv) p.gv re δ m).bind asB)
theorem Ev.plain {re : RE} {e : Expr} (h : PE X e (rdE g W (den (callAt p lv) p.gv re))) (hp : plainT e = true) : Ev g p lv re W X e :=
  ⟨h, fun _ => t_val h hp, fun op l pos z => by subst z; cases hp⟩
theorem and3 {a b : Bool} (h : (a && b) = true) : a = true ∧ b = true := Bool.and_eq_true_iff.mp h
/-- the context of a comprehension's block -/
theorem Cok.blk (c : Cok g T p lv X W cd) {s : Shared} {H : Hp} {scope : Scope} {C : Addr} {cl : List (Str × Addr)} {fp : List Addr} : Cok g T p lv (X.blk s H scope (compEnvC scope cl C X.env) fp) W0 (blkCd cd scope) where
  K := c.K
  kf := c.kf
  N := c.N
  sc := by show relS scope X.env.scope = relS scope cd.sc; rw [c.sc]
  fn := rfl
  nd := c.nd
  calm := c.calm
  tk := fun u s' ⟨_, _, _, _, _, _, _, _, _, _, _, _, _, _, _, _, w⟩ => w
  room := c.room
  bl := c.bl
  call := c.call
  callK := c.callK
  gl := c.gl
  cn := c.cn
def ownS (cd : Cd) (own : List Nat) : List (Str × Nat) := own.map fun i => ((cd.N[i]?).getD ⟨#[]⟩, i)
theorem blkB_ok (c : Cok g T p lv X W cd) {scope : Scope} {own : List Nat} (h : blkB cd scope own = true) : BlkOk X.N X.env.scope scope (ownS cd own) := by
  unfold blkB at h
  obtain ⟨h, h4⟩ := and3 h
  obtain ⟨h, h3⟩ := and3 h
  obtain ⟨h1, h2⟩ := and3 h
  have ow : ∀ x : Str, (own.any fun i => decide (cd.N[i]? = some x)) = true → x ∈ (ownS cd own).map (·.1) := fun x hx => by
    obtain ⟨i, hi, e⟩ := List.any_eq_true.mp hx
    have e := of_decide_eq_true e
    refine List.mem_map.mpr ⟨((cd.N[i]?).getD ⟨#[]⟩, i), List.mem_map.mpr ⟨i, hi, rfl⟩, ?_⟩
    show (cd.N[i]?).getD ⟨#[]⟩ = x
    rw [e]; rfl
  refine ⟨of_decide_eq_true h1, fun y hy => of_decide_eq_true (List.all_eq_true.mp h2 y hy), fun q hq => ?_, fun y hy e => ?_, fun y hy e => ?_⟩
  · obtain ⟨i, hi, rfl⟩ := List.mem_map.mp hq
    have := List.all_eq_true.mp h3 i hi
    rw [c.N]
    show cd.N[i]? = some ((cd.N[i]?).getD ⟨#[]⟩)
    cases z : cd.N[i]? with
    | none => rw [z] at this; cases this
    | some v => rfl
  · have := List.all_eq_true.mp h4 y hy
    rw [e] at this
    dsimp only at this
    rw [c.sc]
    split at this
    · rename_i z; exact .inl z
    · rename_i z; exact .inr z
    · cases this
  · have := List.all_eq_true.mp h4 y hy
    rw [c.N]
    rcases e with e | e <;>
    · rw [e] at this
      dsimp only at this
      rcases Bool.or_eq_true_iff.mp this with z | z
      · exact .inl (ow _ z)
      · exact .inr (by simpa using z)
theorem ownS_snd (cd : Cd) (own : List Nat) : (ownS cd own).map (·.2) = own := by
  unfold ownS
  rw [List.map_map]
  exact List.map_id _
theorem fold_ok {iter : Expr} {env : Env} (h : noSet iter = true) : ∀ x, foldedSetIterable iter env x = pure x := by
  intro x
  cases iter <;> first | rfl | cases h
/-- a comprehension's parts -/
structure LcP (g : Gn) (p : Pg) (lv : Nat) (elt : RE) (t : Dn.T) (it : RI) (cnd : RO) (own : List Nat) (X : Cx) (W : WX) (ee tg iter : Expr) (ifs : List Expr) (scope : Scope) (ow : List (Str × Nat)) : Prop where
  owe : ow.map (·.2) = own
  pi : PI X tg iter (rdIt g W (denI (callAt p lv) p.gv it))
  ok : BlkOk X.N X.env.scope scope ow
  ixs : ∀ i ∈ t.ixs, i ∈ own
  pg : ∀ (s : Shared) (H : Hp) (C : Addr) (cl : List (Str × Addr)) (fp : List Addr), PG (X.blk s H scope (compEnvC scope cl C X.env) fp) tg (rdG g t)
  pt : ∀ (s : Shared) (H : Hp) (C : Addr) (cl : List (Str × Addr)) (fp : List Addr), PTs (X.blk s H scope (compEnvC scope cl C X.env) fp) ifs (rdT g W0 (denC (callAt p lv) p.gv cnd))
  pe : ∀ (s : Shared) (H : Hp) (C : Addr) (cl : List (Str × Addr)) (fp : List Addr), PE (X.blk s H scope (compEnvC scope cl C X.env) fp) ee (rdE g W0 (den (callAt p lv) p.gv elt))
  fs : ∀ x, foldedSetIterable iter X.env x = pure x
theorem lcP_mk (c : Cok g T p lv X W cd) {mu : Bool} {elt : RE} {t : Dn.T} {it : RI} {cnd : RO} {own : List Nat} {e : Expr} (h : chkE T cd (.lc mu elt t it cnd own) e = true)
    (hI : ∀ {tg iter}, chkI T cd it tg iter = true → PI X tg iter (rdIt g W (denI (callAt p lv) p.gv it)))
    (hC : ∀ {X' cd' ifs}, Cok g T p lv X' W0 cd' → chkC T cd' cnd ifs = true → PTs X' ifs (rdT g W0 (denC (callAt p lv) p.gv cnd)))
    (hE : ∀ {X' cd' ee}, Cok g T p lv X' W0 cd' → chkE T cd' elt ee = true → PE X' ee (rdE g W0 (den (callAt p lv) p.gv elt))) :
    ∃ ee tg iter ifs scope pos, e = .ListComp ee [⟨tg, iter, ifs, 0⟩] scope pos ∧ LcP g p lv elt t it cnd own X W ee tg iter ifs scope (ownS cd own) := by
  unfold chkE at h
  split at h
  · rename_i ee tg iter ifs as scope pos
    obtain ⟨h, h8⟩ := and3 h
    obtain ⟨h, h7⟩ := and3 h
    obtain ⟨h, h6⟩ := and3 h
    obtain ⟨h, h5⟩ := and3 h
    obtain ⟨h, h4⟩ := and3 h
    obtain ⟨h, h3⟩ := and3 h
    obtain ⟨h1, h2⟩ := and3 h
    have h1 := of_decide_eq_true h1
    subst h1
    exact ⟨ee, tg, iter, ifs, scope, pos, rfl, ownS_snd cd own, hI h2, blkB_ok c h3, fun i hi => of_decide_eq_true (List.all_eq_true.mp h4 i hi), fun s H C cl fp => g_ok c.blk h5, fun s H C cl fp => hC c.blk h6, fun s H C cl fp => hE c.blk h7, fold_ok h8⟩
  · cases h
theorem LcP.rd (c : Cok g T p lv X W cd) {mu : Bool} {elt : RE} {t : Dn.T} {it : RI} {cnd : RO} {own : List Nat} {ee tg iter : Expr} {ifs : List Expr} {scope : Scope} {ow : List (Str × Nat)} (L : LcP g p lv elt t it cnd own X W ee tg iter ifs scope ow) {σ : L2.St} {H : Hp} {Q : VK}
    (h : rdE g W (den (callAt p lv) p.gv (.lc mu elt t it cnd own)) σ H Q) : tLc (rdIt g W (denI (callAt p lv) p.gv it)) (rdG g t) (rdT g W0 (denC (callAt p lv) p.gv cnd)) (rdE g W0 (den (callAt p lv) p.gv elt)) (ow.map (·.2)) σ H Q := by
  refine e_lc c (mu := mu) (pos := ⟨0, 0, 0, 0⟩) L.pi L.ok (by rw [L.owe]; exact L.ixs) L.pg L.pt L.pe ?_
  rw [L.owe]
  exact h
theorem LcP.ev (c : Cok g T p lv X W cd) {mu : Bool} {elt : RE} {t : Dn.T} {it : RI} {cnd : RO} {own : List Nat} {ee tg iter : Expr} {ifs : List Expr} {scope : Scope} {pos : Pos} {ow : List (Str × Nat)} (L : LcP g p lv elt t it cnd own X W ee tg iter ifs scope ow) :
    PE X (.ListComp ee [⟨tg, iter, ifs, 0⟩] scope pos) (rdE g W (den (callAt p lv) p.gv (.lc mu elt t it cnd own))) :=
  (pe_lc c.calm c.nd L.pi L.ok L.pg L.pt L.pe L.fs).imp fun σ H Q h => L.rd c h
theorem plainT_noBool {e : Expr} (h : plainT e = true) : ∀ op l pos, e ≠ .BoolOp op l pos := fun op l pos z => by subst z; cases h
mutual
theorem sE : ∀ (re : RE) {X : Cx} {W : WX} {cd : Cd} (c : Cok g T p lv X W cd) {e : Expr}, chkE T cd re e = true → Ev g p lv re W X e
  | .var i, X, W, cd, c, e, h => by
    unfold chkE at h
    split at h
    · obtain ⟨h, h3⟩ := and3 h
      obtain ⟨h1, h2⟩ := and3 h
      refine .plain ?_ rfl
      exact e_var c (of_decide_eq_true h1) h2 h3
    · cases h
  | .cst x, X, W, cd, c, e, h => by
    unfold chkE at h
    split at h
    · refine .plain ?_ rfl
      exact e_cst h
    · cases h
  | .glo n, X, W, cd, c, e, h => by
    unfold chkE at h
    split at h
    · obtain ⟨h, h3⟩ := and3 h
      obtain ⟨h1, h2⟩ := and3 h
      refine .plain ?_ rfl
      exact e_glo c (of_decide_eq_true h1) h2 h3
    · cases h
  | .tup l, X, W, cd, c, e, h => by
    unfold chkE at h
    split at h
    · refine .plain ?_ rfl
      exact e_tup (sL l c h)
    · cases h
  | .lst mu l, X, W, cd, c, e, h => by
    unfold chkE at h
    split at h
    · refine .plain ?_ rfl
      exact e_lst (sL l c h)
    · cases h
  | .bin o a b, X, W, cd, c, e, h => by
    unfold chkE at h
    split at h
    · obtain ⟨h, h3⟩ := and3 h
      obtain ⟨h1, h2⟩ := and3 h
      have h1 := of_decide_eq_true h1
      subst h1
      refine .plain ?_ rfl
      exact e_bin c (sE a c h2).pe (sE b c h3).pe
    · cases h
  | .neg a, X, W, cd, c, e, h => by
    unfold chkE at h
    split at h
    · obtain ⟨h1, h2⟩ := and3 h
      have h1 := of_decide_eq_true h1
      subst h1
      refine .plain ?_ rfl
      exact e_neg (sE a c h2).pe
    · cases h
  | .cmp o a b, X, W, cd, c, e, h => by
    unfold chkE at h
    split at h
    · obtain ⟨h, h4⟩ := and3 h
      obtain ⟨h, h3⟩ := and3 h
      obtain ⟨h1, h2⟩ := and3 h
      have h1 := of_decide_eq_true h1
      subst h1
      refine ⟨?_, fun _ => ?_, fun _ _ _ z => by cases z⟩
      · exact e_cmp c (sE a c h2).pe (sE b c h3).pe h4
      · exact t_cmp c (sE a c h2).pe (sE b c h3).pe h4
    · cases h
  | .cmp2 o o' a b d, X, W, cd, c, e, h => by
    unfold chkE at h
    split at h
    · obtain ⟨h, h6⟩ := and3 h
      obtain ⟨h, h5⟩ := and3 h
      obtain ⟨h, h4⟩ := and3 h
      obtain ⟨h, h3⟩ := and3 h
      obtain ⟨h1, h2⟩ := and3 h
      have h1 := of_decide_eq_true h1
      have h2 := of_decide_eq_true h2
      subst h1 h2
      refine ⟨?_, fun _ => ?_, fun _ _ _ z => by cases z⟩
      · exact e_cmp2 c (sE a c h3).pe (sE b c h4).pe (sE d c h5).pe h6
      · exact t_cmp2 c (sE a c h3).pe (sE b c h4).pe (sE d c h5).pe h6
    · cases h
  | .and a b, X, W, cd, c, e, h => by
    unfold chkE at h
    split at h
    · rename_i op x y l pos
      obtain ⟨h, h5⟩ := and3 h
      obtain ⟨h, h4⟩ := and3 h
      obtain ⟨h, h3⟩ := and3 h
      obtain ⟨h1, h2⟩ := and3 h
      have h1 := of_decide_eq_true h1
      subst h1
      have ea := sE a c h2
      have eb := sE b c h4
      have kp : PE X (.BoolOp .And (y :: l) pos) (rdE g W (den (callAt p lv) p.gv b)) := by
        cases l with
        | nil => exact pe_one eb.pe
        | cons z l => exact eb.pe
      have kw : PW X (.BoolOp .And (y :: l) pos) (rdT g W fun δ m => (den (callAt p lv) p.gv b δ m).bind asB) := by
        cases l with
        | nil => exact pw_and1 (eb.pt h5)
        | cons z l => exact eb.pw _ _ _ rfl
      have w := t_and (pos := pos) (ea.pt h3) kw
      refine ⟨?_, fun _ => ?_, fun _ _ _ z => ?_⟩
      · exact e_and ea.pe kp
      · exact w.pt
      · exact w
    · cases h
  | .or a b, X, W, cd, c, e, h => by
    unfold chkE at h
    split at h
    · rename_i op x y l pos
      obtain ⟨h, h5⟩ := and3 h
      obtain ⟨h, h4⟩ := and3 h
      obtain ⟨h, h3⟩ := and3 h
      obtain ⟨h1, h2⟩ := and3 h
      have h1 := of_decide_eq_true h1
      subst h1
      have ea := sE a c h2
      have eb := sE b c h4
      have kp : PE X (.BoolOp .Or (y :: l) pos) (rdE g W (den (callAt p lv) p.gv b)) := by
        cases l with
        | nil => exact pe_one eb.pe
        | cons z l => exact eb.pe
      have kw : PW X (.BoolOp .Or (y :: l) pos) (rdT g W fun δ m => (den (callAt p lv) p.gv b δ m).bind asB) := by
        cases l with
        | nil => exact pw_or1 (eb.pt h5)
        | cons z l => exact eb.pw _ _ _ rfl
      have w := t_or (pos := pos) (ea.pt h3) kw
      refine ⟨?_, fun _ => ?_, fun _ _ _ z => ?_⟩
      · exact e_or ea.pe kp
      · exact w.pt
      · exact w
    · cases h
  | .not a, X, W, cd, c, e, h => by
    unfold chkE at h
    split at h
    · obtain ⟨h, h3⟩ := and3 h
      obtain ⟨h1, h2⟩ := and3 h
      have h1 := of_decide_eq_true h1
      subst h1
      have ea := sE a c h2
      refine ⟨?_, fun _ => ?_, fun _ _ _ z => by cases z⟩
      · exact e_not ea.pe
      · exact t_not (ea.pt h3)
    · cases h
  | .ite d a b, X, W, cd, c, e, h => by
    unfold chkE at h
    split at h
    · obtain ⟨h, h4⟩ := and3 h
      obtain ⟨h, h3⟩ := and3 h
      obtain ⟨h1, h2⟩ := and3 h
      refine ⟨?_, fun z => (by cases z), fun _ _ _ z => (by cases z)⟩
      exact e_ite ((sE d c h1).pt h2) (sE a c h3).pe (sE b c h4).pe
    · cases h
  | .isi a one l, X, W, cd, c, e, h => by
    unfold chkE at h
    split at h
    · rename_i f fp x t pos
      obtain ⟨h, h5⟩ := and3 h
      obtain ⟨h, h4⟩ := and3 h
      obtain ⟨h, h3⟩ := and3 h
      obtain ⟨h1, h2⟩ := and3 h
      have h1 := of_decide_eq_true h1
      subst h1
      refine .plain ?_ rfl
      split at h5
      · split at h5
        · exact e_isi1 c h2 (sE a c h3).pe h4 h5
        · cases h5
      · split at h5
        · obtain ⟨h5, h7⟩ := and3 h5
          obtain ⟨h5, h6⟩ := and3 h5
          exact e_isiT c h2 (sE a c h3).pe h4 (fun z => by subst z; cases h6) (of_decide_eq_true h5) h7
        · cases h5
    · cases h
  | .ix a b, X, W, cd, c, e, h => by
    unfold chkE at h
    split at h
    · obtain ⟨h, h3⟩ := and3 h
      obtain ⟨h1, h2⟩ := and3 h
      refine .plain ?_ rfl
      exact e_ix c (sE a c h1).pe (sE b c h2).pe h3
    · cases h
  | .sl a lo hi, X, W, cd, c, e, h => by
    unfold chkE at h
    split at h
    · obtain ⟨h, h3⟩ := and3 h
      obtain ⟨h1, h2⟩ := and3 h
      refine .plain ?_ rfl
      exact e_sl c (sE a c h1).pe (sO lo c h2) (sO hi c h3)
    · cases h
  | .call f l, X, W, cd, c, e, h => by
    unfold chkE at h
    split at h
    · rename_i x np es pos
      obtain ⟨h, h5⟩ := and3 h
      obtain ⟨h, h4⟩ := and3 h
      obtain ⟨h, h3⟩ := and3 h
      obtain ⟨h1, h2⟩ := and3 h
      refine .plain ?_ rfl
      cases es with
      | nil =>
        have : l = .nil := by
          cases l with
          | nil => rfl
          | cons _ _ => unfold chkL at h4; cases h4
          | star _ _ => unfold chkL at h4; cases h4
        subst this
        exact e_call0 c (of_decide_eq_true h1) h2 h3
      | cons a es => exact e_call c (of_decide_eq_true h1) h2 h3 (sL l c h4) h5
    · cases h
  | .callK f l kl pm, X, W, cd, c, e, h => by
    unfold chkE at h
    split at h
    · rename_i x np es kws pos
      obtain ⟨h, h9⟩ := and3 h
      obtain ⟨h, h8⟩ := and3 h
      obtain ⟨h, h7⟩ := and3 h
      obtain ⟨h, h6⟩ := and3 h
      obtain ⟨h, h5⟩ := and3 h
      obtain ⟨h, h4⟩ := and3 h
      obtain ⟨h, h3⟩ := and3 h
      obtain ⟨h1, h2⟩ := and3 h
      refine .plain ?_ rfl
      split at h9
      · rename_i ks eks
        obtain ⟨h9, h10⟩ := and3 h9
        have h9 := of_decide_eq_true h9
        have h10 := of_decide_eq_true h10
        cases es with
        | nil =>
          have : l = .nil := by
            cases l with
            | nil => rfl
            | cons _ _ => unfold chkL at h4; cases h4
            | star _ _ => unfold chkL at h4; cases h4
          subst this
          exact e_callK0 c (of_decide_eq_true h1) h9 h2 h3 (sK kl c h7) eks fun δ m xs m' q => (len_den h8 q).trans h10
        | cons a es => exact e_callK c (of_decide_eq_true h1) h9 h2 h3 (sL l c h4) (sK kl c h7) h5 eks (fun δ m xs m' q => len_den h6 q) fun δ m xs m' q => (len_den h8 q).trans h10
      · cases h9
    · cases h
  | .bcl f l, X, W, cd, c, e, h => by
    unfold chkE at h
    split at h
    · obtain ⟨h, h4⟩ := and3 h
      obtain ⟨h, h3⟩ := and3 h
      obtain ⟨h1, h2⟩ := and3 h
      have h4' := h4
      rw [List.all_cons] at h4'
      refine .plain ?_ rfl
      exact e_bcl c (of_decide_eq_true h1) h2 (sL l c h3) (and3 h4').1 (and3 h4').2
    · cases h
  | .bmt f a l, X, W, cd, c, e, h => by
    unfold chkE at h
    split at h
    · obtain ⟨h, h7⟩ := and3 h
      obtain ⟨h, h6⟩ := and3 h
      obtain ⟨h, h5⟩ := and3 h
      obtain ⟨h, h4⟩ := and3 h
      obtain ⟨h, h3⟩ := and3 h
      obtain ⟨h1, h2⟩ := and3 h
      refine .plain ?_ rfl
      exact e_bmt c (of_decide_eq_true h1) (sE a c h2).pe (sL l c h4) h5 (of_decide_eq_true h6) h3 h7
    · cases h
  | .lc mu elt t it cnd own, X, W, cd, c, e, h => by
    obtain ⟨ee, tg, iter, ifs, scope, pos, rfl, L⟩ := lcP_mk c h (fun q => sI it c q) (fun c' q => sC cnd c' q) (fun c' q => (sE elt c' q).pe)
    exact .plain (L.ev c) rfl
  | .frz a, X, W, cd, c, e, h => by
    unfold chkE at h
    obtain ⟨h1, h2⟩ := and3 h
    refine .plain ?_ h2
    exact e_frz (sE a c h1).pe
theorem sL : ∀ (l : RL) {X : Cx} {W : WX} {cd : Cd} (c : Cok g T p lv X W cd) {es : List Expr}, chkL T cd l es = true → PA X es (rdA g W (denL (callAt p lv) p.gv l))
  | .nil, X, W, cd, c, es, h => by
    unfold chkL at h
    cases es with
    | nil => exact a_nil
    | cons _ _ => cases h
  | .cons a l, X, W, cd, c, es, h => by
    unfold chkL at h
    split at h
    · obtain ⟨h, h3⟩ := and3 h
      obtain ⟨h1, h2⟩ := and3 h
      exact a_cons (sE a c h1).pe (sL l c h3) h2
    · cases h
  | .star a l, X, W, cd, c, es, h => by
    unfold chkL at h
    split at h
    · obtain ⟨h1, h2⟩ := and3 h
      exact a_star c (sE a c h1).pe (sL l c h2)
    · cases h
theorem sK : ∀ (l : RL) {X : Cx} {W : WX} {cd : Cd} (c : Cok g T p lv X W cd) {es : List Keyword}, chkK T cd l es = true → PK X es (rdA g W (denL (callAt p lv) p.gv l))
  | .nil, X, W, cd, c, es, h => by
    unfold chkK at h
    cases es with
    | nil => exact k_nil
    | cons _ _ => cases h
  | .cons a l, X, W, cd, c, es, h => by
    unfold chkK at h
    split at h
    · obtain ⟨h1, h2⟩ := and3 h
      exact k_cons (sE a c h1).pe (sK l c h2)
    · cases h
  | .star _ _, X, W, cd, c, es, h => by
    unfold chkK at h
    cases h
theorem sO : ∀ (o : RO) {X : Cx} {W : WX} {cd : Cd} (c : Cok g T p lv X W cd) {e : Option Expr}, chkO T cd o e = true → L2.PO X e (rdO g W (denO (callAt p lv) p.gv o))
  | .none, X, W, cd, c, e, h => by
    unfold chkO at h
    cases e with
    | none => exact o_none
    | some _ => cases h
  | .some a, X, W, cd, c, e, h => by
    unfold chkO at h
    split at h
    · exact o_some (sE a c h).pe
    · cases h
theorem sC : ∀ (o : RO) {X : Cx} {W : WX} {cd : Cd} (c : Cok g T p lv X W cd) {es : List Expr}, chkC T cd o es = true → PTs X es (rdT g W (denC (callAt p lv) p.gv o))
  | .none, X, W, cd, c, es, h => by
    unfold chkC at h
    cases es with
    | nil =>
      exact ⟨fun pins s σ H Q I ⟨δ, m, ρ, F, M, rs, P⟩ => pts_nil.run pins s σ H Q I (P.val M rfl)⟩
    | cons _ _ => cases h
  | .some a, X, W, cd, c, es, h => by
    unfold chkC at h
    split at h
    · obtain ⟨h1, h2⟩ := and3 h
      exact pts_one ((sE a c h1).pt h2)
    · cases h
theorem sI : ∀ (o : RI) {X : Cx} {W : WX} {cd : Cd} (c : Cok g T p lv X W cd) {tg e : Expr}, chkI T cd o tg e = true → PI X tg e (rdIt g W (denI (callAt p lv) p.gv o))
  | .seq a, X, W, cd, c, tg, e, h => by
    unfold chkI at h
    exact i_seq c (sE a c h).pe
  | .rng a, X, W, cd, c, tg, e, h => by
    unfold chkI at h
    split at h
    · obtain ⟨h, h4⟩ := and3 h
      obtain ⟨h, h3⟩ := and3 h
      obtain ⟨h1, h2⟩ := and3 h
      have h1 := of_decide_eq_true h1
      subst h1
      exact i_rng c h2 (sE a c h3).pe h4
    · cases h
  | .rng2 a b, X, W, cd, c, tg, e, h => by
    unfold chkI at h
    split at h
    · obtain ⟨h, h6⟩ := and3 h
      obtain ⟨h, h5⟩ := and3 h
      obtain ⟨h, h4⟩ := and3 h
      obtain ⟨h, h3⟩ := and3 h
      obtain ⟨h1, h2⟩ := and3 h
      have h1 := of_decide_eq_true h1
      subst h1
      exact i_rng2 c h2 (sE a c h3).pe h4 (sE b c h5).pe h6
    · cases h
  | .zip a b, X, W, cd, c, tg, e, h => by
    unfold chkI at h
    split at h
    · obtain ⟨h, h6⟩ := and3 h
      obtain ⟨h, h5⟩ := and3 h
      obtain ⟨h, h4⟩ := and3 h
      obtain ⟨h, h3⟩ := and3 h
      obtain ⟨h1, h2⟩ := and3 h
      have h1 := of_decide_eq_true h1
      subst h1
      exact i_zip c h2 (sE a c h3).pe h4 (sE b c h5).pe h6
    · cases h
  | .enum a, X, W, cd, c, tg, e, h => by
    unfold chkI at h
    split at h
    · obtain ⟨h, h4⟩ := and3 h
      obtain ⟨h, h3⟩ := and3 h
      obtain ⟨h1, h2⟩ := and3 h
      have h1 := of_decide_eq_true h1
      subst h1
      exact i_enum c h2 (sE a c h3).pe h4
    · cases h
end
end
end Dn

/-! Dn, part O: statements. -/
namespace Dn
open PySem PySem.Spec PyProof.Rows L2
def PostS (g : Gn) (ρ : Rho) (F : Hp) (m : Mem) (H : Hp) (r : S) (D : Ends) (W : WX) : Prop := match r with
  | .ok f δ m' => ∀ σ H' ρ' F', Ext ρ F m H ρ' F' m' H' → MRel g ρ' F' m' H' → RSl g ρ' F' m'.length δ σ → (match f with
    | .nx => D.nx σ H'
    | .br => D.bk σ H'
    | .ct => D.ct σ H'
    | .rt d => ∀ v, RD g ρ' F' m'.length d v → D.rt v H')
  | .ex x δ m' => ∀ σ cls dd H' ρ' F', Ext ρ F m H ρ' F' m' H' → MRel g ρ' F' m' H' → RSl g ρ' F' m'.length δ σ → RX g F' x cls dd H' → W cls dd σ H'
  | .no => False
def rdS (g : Gn) (W : WX) (r : Sl → Mem → S) : TS := fun D σ H => ∃ δ m ρ F, MRel g ρ F m H ∧ RSl g ρ F m.length δ σ ∧ PostS g ρ F m H (r δ m) D W
section
variable {g : Gn} {W : WX} {X : Cx} {T : Tb} {p : Pg} {lv : Nat} {cd : Cd} {ρ ρ1 : Rho} {F F1 H H1 : Hp} {m m1 : Mem} {D : Ends}
theorem PostS.on {r : S} (a : Ext ρ F m H ρ1 F1 m1 H1) (h : PostS g ρ F m H r D W) : PostS g ρ1 F1 m1 H1 r D W := by
  cases r with
  | ok f δ m' => exact fun σ H' ρ' F' x M rs => h σ H' ρ' F' (a.trans x) M rs
  | ex x δ m' => exact fun σ cls dd H' ρ' F' e M rs q => h σ cls dd H' ρ' F' (a.trans e) M rs q
  | no => exact h.elim
theorem PostS.next {δ : Sl} {σ : L2.St} (h : PostS g ρ F m H (.ok .nx δ m) D W) (M : MRel g ρ F m H) (rs : RSl g ρ F m.length δ σ) : D.nx σ H := h σ H ρ F Ext.refl M rs
/-- an expression ahead -/
theorem PostS.to {α γ : Type} {rel : Rho → Hp → Nat → α → γ → Prop} {r : R α} {δ : Sl} {f : α → Mem → S} {Q : γ → Hp → Prop} {σ : L2.St} (rs : RSl g ρ F m.length δ σ) (h : PostS g ρ F m H (r.toS δ f) D W)
    (k : ∀ d m' v H' ρ' F', Ext ρ F m H ρ' F' m' H' → MRel g ρ' F' m' H' → RSl g ρ' F' m'.length δ σ → rel ρ' F' m'.length d v → PostS g ρ' F' m' H' (f d m') D W → Q v H') : Post g rel ρ F m H r Q (WE W σ) := by
  cases r with
  | ok d m' => exact fun v H' ρ' F' x M r => k d m' v H' ρ' F' x M (rs.mono x) r (PostS.on x h)
  | ex x m' => exact fun cls dd H' ρ' F' e M q => h σ cls dd H' ρ' F' e M (rs.mono e) q
  | no => exact h.elim
theorem rdS.to {α γ : Type} {rel : Rho → Hp → Nat → α → γ → Prop} {ra : Sl → Mem → R α} {f : α → Sl → Mem → S} {Q : γ → Hp → Prop} {σ : L2.St} {H : Hp} (h : rdS g W (fun δ m => (ra δ m).toS δ fun d m => f d δ m) D σ H)
    (k : ∀ δ d m ρ F v H', MRel g ρ F m H' → RSl g ρ F m.length δ σ → rel ρ F m.length d v → PostS g ρ F m H' (f d δ m) D W → Q v H') : rdX g rel W ra σ H Q := by
  obtain ⟨δ, m, ρ, F, M, rs, P⟩ := h
  exact ⟨δ, m, ρ, F, M, rs, PostS.to rs P fun d m' v H' ρ' F' x M' rs' r P' => k δ d m' ρ' F' v H' M' rs' r P'⟩
def noComp : Expr → Bool
  | .ListComp .. => false
  | .SetComp .. => false
  | .DictComp .. => false
  | _ => true
theorem sw_none {e : Expr} {t : Option Expr} {l : Nat} {env : Env} (h : noComp e = true) : swapsWith e t l env = pure false := by cases e <;> first | rfl | cases h
theorem sw_tgt {e t : Expr} {l : Nat} {env : Env} (h : (match t with | .Name .. => false | _ => true) = true) : swapsWithSole [t] e l env = pure false := by
  show swapsWith e (some t) l env = pure false
  cases t <;> first | (exact absurd h Bool.false_ne_true) | (cases e <;> rfl)
/-! ### sequences -/
theorem b_nil : PSs X [] (rdS g W fun δ m => .ok .nx δ m) := pss_nil.imp fun D σ H ⟨δ, m, ρ, F, M, rs, P⟩ => P.next M rs
theorem b_cons {s : Stmt} {l : List Stmt} {ra rb : Sl → Mem → S} (h1 : PS X s (rdS g W ra)) (h2 : PSs X l (rdS g W rb)) :
    PSs X (s :: l) (rdS g W fun δ m => match ra δ m with | .ok .nx δ m => rb δ m | r => r) := by
  refine (pss_cons h1 h2).imp fun D σ H ⟨δ, m, ρ, F, M, rs, P⟩ => ⟨δ, m, ρ, F, M, rs, ?_⟩
  dsimp only at P
  cases q : ra δ m with
  | no => rw [q] at P; exact P.elim
  | ex x δ' m' => rw [q] at P; exact P
  | ok f δ' m' =>
    rw [q] at P
    cases f with
    | nx => exact fun σ' H' ρ' F' x M' rs' => ⟨δ', m', ρ', F', M', rs', PostS.on x P⟩
    | rt d => exact P
    | br => exact P
    | ct => exact P
/-! ### statements -/
theorem s_ex {e : Expr} {pos : Pos} {ra : Sl → Mem → R Dn.D} (he : PE X e (rdE g W ra)) (hn : noComp e = true) : PS X (.Expr e pos) (rdS g W fun δ m => (ra δ m).toS δ fun _ m => .ok .nx δ m) :=
  (ps_expr he (sw_none hn)).imp fun D σ H h => rdS.to h fun δ d m ρ F v H' M rs r P => P.next M rs
theorem s_ret {e : Expr} {pos : Pos} {ra : Sl → Mem → R Dn.D} (he : PE X e (rdE g W ra)) : PS X (.Return (some e) pos) (rdS g W fun δ m => (ra δ m).toS δ fun d m => .ok (.rt d) δ m) :=
  (ps_ret he).imp fun D σ H h => rdS.to h fun δ d m ρ F v H' M rs r P => P σ H' ρ F Ext.refl M rs v r
theorem s_retN {pos : Pos} : PS X (.Return none pos) (rdS g W fun δ m => .ok (.rt (.p .non)) δ m) :=
  ps_retN.imp fun D σ H ⟨δ, m, ρ, F, M, rs, P⟩ => P σ H ρ F Ext.refl M rs .non RP.non
theorem s_pas {pos : Pos} : PS X (.Pass pos) (rdS g W fun δ m => .ok .nx δ m) := ps_pass.imp fun D σ H ⟨δ, m, ρ, F, M, rs, P⟩ => P.next M rs
theorem s_brk {pos : Pos} : PS X (.Break pos) (rdS g W fun δ m => .ok .br δ m) := ps_break.imp fun D σ H ⟨δ, m, ρ, F, M, rs, P⟩ => P σ H ρ F Ext.refl M rs
theorem s_cnt {pos : Pos} : PS X (.Continue pos) (rdS g W fun δ m => .ok .ct δ m) := ps_continue.imp fun D σ H ⟨δ, m, ρ, F, M, rs, P⟩ => P σ H ρ F Ext.refl M rs
theorem s_set (c : Cok g T p lv X W cd) {i : Nat} {x : Str} {e : Expr} {pos np : Pos} {ra : Sl → Mem → R Dn.D} (hi : cd.N[i]? = some x) (hx : isLoc cd x = true) (he : PE X e (rdE g W ra)) (hs : swapsWith e (some (.Name x np)) pos.line X.env = pure false) :
    PS X (.Assign [.Name x np] e pos) (rdS g W fun δ m => (ra δ m).toS δ fun d m => .ok .nx (δ.set i (some d)) m) := by
  obtain ⟨l1, l2⟩ := c.loc hx
  exact (ps_set c.nd (by rw [c.N]; exact hi) l1 he hs l2).imp fun D σ H h => rdS.to h fun δ d m ρ F v H' M rs r P => P.next M (rs.set i r)
theorem s_setLc (c : Cok g T p lv X W cd) {i : Nat} {x : Str} {mu : Bool} {elt : RE} {t : Dn.T} {it : RI} {cnd : RO} {own : List Nat} {ee tg iter : Expr} {ifs : List Expr} {scope : Scope} {ow : List (Str × Nat)} {pos np cp : Pos} (hi : cd.N[i]? = some x) (hx : isL cd x = true)
    (L : LcP g p lv elt t it cnd own X W ee tg iter ifs scope ow) (hsw : swapsWith (.ListComp ee [⟨tg, iter, ifs, 0⟩] scope cp) (some (.Name x np)) pos.line X.env = pure true) :
    PS X (.Assign [.Name x np] (.ListComp ee [⟨tg, iter, ifs, 0⟩] scope cp) pos) (rdS g W fun δ m => (den (callAt p lv) p.gv (.lc mu elt t it cnd own) δ m).toS δ fun d m => .ok .nx (δ.set i (some d)) m) := by
  refine (ps_setLc c.calm c.nd (by rw [c.N]; exact hi) (c.lcl hx) hsw L.pi L.ok L.pg L.pt L.pe L.fs).imp fun D σ H h => ?_
  refine L.rd c (mu := mu) ?_
  exact rdS.to h fun δ d m ρ F v H' M rs r P => P.next M (rs.set i r)
theorem s_asg {t : Dn.T} {tg e : Expr} {pos : Pos} {ra : Sl → Mem → R Dn.D} (he : PE X e (rdE g W ra)) (hg : PG X tg (rdG g t)) (hs : swapsWithSole [tg] e pos.line X.env = pure false) (hw : swappedStores [tg] e X.env = pure none) (h1 : (assignEach [tg] X.env).map (·.2) = [assign tg X.env]) :
    PS X (.Assign [tg] e pos) (rdS g W fun δ m => (ra δ m).toS δ fun d m => match asgT t d m δ with | some δ' => .ok .nx δ' m | none => .no) := by
  refine (ps_asg he hg hs hw h1).imp fun D σ H h => rdS.to h fun δ d m ρ F v H' M rs r P => ?_
  split at P
  · rename_i δ' e1
    exact ⟨d, δ, m, ρ, F, δ', M, r, rs, e1, fun σ' rs' _ => P.next M rs'⟩
  · exact P.elim
theorem s_ite {c : Expr} {a b : List Stmt} {pos : Pos} {rc : Sl → Mem → R Dn.D} {ra rb : Sl → Mem → S} (hc : PT X c (rdT g W fun δ m => (rc δ m).bind asB)) (ha : PSs X a (rdS g W ra)) (hb : PSs X b (rdS g W rb)) :
    PS X (.If c a b pos) (rdS g W fun δ m => ((rc δ m).bind asB).toS δ fun k m => if k then ra δ m else rb δ m) := by
  refine (ps_if hc ha hb).imp fun D σ H h => rdS.to h fun δ d m ρ F v H' M rs r P => ?_
  subst r
  cases v with
  | true => exact ⟨δ, m, ρ, F, M, rs, P⟩
  | false => exact ⟨δ, m, ρ, F, M, rs, P⟩
theorem iset_set {D0 : Ends} {d e y : Dn.D} {δ : Sl} {σ : L2.St} {o i v : V} (M : MRel g ρ F m H) (rs : RSl g ρ F m.length δ σ) (rd : RD g ρ F m.length d o) (re : RD g ρ F m.length e i) (ry : RD g ρ F m.length y v)
    (P : PostS g ρ F m H ((isetS d e y m).toS δ fun _ m => .ok .nx δ m) D W) : rdI g o i v H fun H3 => D.nx σ H3 :=
  ⟨d, e, y, m, ρ, F, WE W σ, M, rd, re, ry, PostS.to rs P fun _ m' _ H' ρ' F' x M' rs' _ P' => P'.next M' rs'⟩
theorem as_sub {o i : Expr} {sp : Pos} {env : Env} (hn : noSl i = true) : ∀ v, assign (.Subscript o i sp) env v = (do
      let ov ← holding [v] (eval o env)
      let iv ← holding [v, ov] (eval i env)
      standAt sp
      holding [v, ov, iv] (setItem ov iv v)
      release [v, ov, iv] []) := by
  intro v
  cases i <;> first | rfl | cases hn
theorem aug_sub {i : Expr} (hn : noSl i = true) : ∀ ov iv new, augStore i ov iv new = (do holding [new, ov, iv] (setItem ov iv new); release [new, ov, iv] []; pure .next) := by
  intro ov iv new
  cases i <;> first | rfl | cases hn
theorem s_iset {a b e : Expr} {pos sp : Pos} {ra rb re : Sl → Mem → R Dn.D} (ha : PE X a (rdE g W ra)) (hb : PE X b (rdE g W rb)) (hn : noSl b = true) (he : PE X e (rdE g W re)) :
    PS X (.Assign [.Subscript a b sp] e pos) (rdS g W fun δ m => (re δ m).toS δ fun v m => (ra δ m).toS δ fun x m => (rb δ m).toS δ fun y m => (isetS x y v m).toS δ fun _ m => .ok .nx δ m) := by
  refine (ps_asg he (pg_sub ha hb (iset_ok (g := g)) (as_sub hn)) (sw_tgt rfl) rfl rfl).imp fun D σ H h => rdS.to h fun δ d m ρ F v H' M rs r P => ?_
  refine ⟨δ, m, ρ, F, M, rs, PostS.to rs P fun x m2 x' H2 ρ2 F2 x2 M2 rs2 r2 P2 => ⟨δ, m2, ρ2, F2, M2, rs2, PostS.to rs2 P2 fun y m3 y' H3 ρ3 F3 x3 M3 rs3 r3 P3 => ?_⟩⟩
  exact iset_set (D0 := D) M3 rs3 (r2.mono x3) r3 ((r.mono x2).mono x3) P3
theorem aug_ok (o : BOp) : PIp X (bO o) (rd2 g (augS o)) := by
  rintro pins s σ H x y v u Q I rx ry ⟨d, e, m, ρ, F, E, M, hd, he, h⟩
  unfold augS at h
  split at h
  · cases hd; cases he
    exact iop_add pins s σ H _ _ v u Q I rx ry ⟨_, _, rfl, rfl, h.val M (RP.int _)⟩
  · cases hd; cases he
    exact iop_sub pins s σ H _ _ v u Q I rx ry ⟨_, _, rfl, rfl, h.val M (RP.int _)⟩
  · cases hd; cases he
    split at h
    · rename_i c
      refine iop_mul pins s σ H _ _ v u Q I rx ry ⟨_, _, rfl, rfl, ?_, h.val M (RP.int _)⟩
      unfold mulOk at c
      simpa [CMul] using c
    · exact h.elim
  · exact h.elim
theorem s_aug (c : Cok g T p lv X W cd) {i : Nat} {x : Str} {o : BOp} {e : Expr} {pos np : Pos} {re : Sl → Mem → R Dn.D} (hi : cd.N[i]? = some x) (hx : isLoc cd x = true) (he : PE X e (rdE g W re)) :
    PS X (.AugAssign (.Name x np) (bO o) e pos) (rdS g W fun δ m => match δ[i]? with
      | some (some x) => (re δ m).toS δ fun y m => (augS o x y m).toS δ fun z m => .ok .nx (δ.set i (some z)) m
      | _ => .no) := by
  obtain ⟨l1, l2⟩ := c.loc hx
  refine (ps_aug c.nd (by rw [c.N]; exact hi) l1 he (aug_ok (g := g) o) l2).imp fun D σ H ⟨δ, m, ρ, F, M, rs, P⟩ => ?_
  dsimp only at P
  split at P
  · rename_i d ed
    obtain ⟨v, ev, r⟩ := rs.get i d ed
    refine ⟨v, ev, δ, m, ρ, F, M, rs, PostS.to rs P fun y m2 y' H2 ρ2 F2 x2 M2 rs2 r2 P2 => ?_⟩
    exact ⟨d, y, m2, ρ2, F2, WE W σ, M2, r.mono x2, r2, PostS.to rs2 P2 fun z m3 z' H3 ρ3 F3 x3 M3 rs3 r3 P3 => P3.next M3 (rs3.set i r3)⟩
  · exact P.elim
theorem get_ok : PGet X (rd2 g getS) := by
  rintro pins s σ H o i ov iv Q I ro ri ⟨d, e, m, ρ, F, E, M, hd, he, h⟩
  unfold getS at h
  split at h
  · rename_i n k
    cases he
    split at h
    · rename_i l el
      split at h
      · rename_i x ex
        obtain ⟨ho, rfl, h1, h2⟩ := M.look el hd
        obtain ⟨vs, rfl, h3⟩ := rmo_lst h2
        obtain ⟨v, ev, rv⟩ := atI_rel h3 ex
        cases ro
        obtain ⟨t, rfl⟩ := ri
        obtain ⟨its, r, pl, hz⟩ := I.list (SqL.of h1)
        obtain ⟨j, k1, k2, k3, k4, k5⟩ := atI_get ev
        obtain ⟨w, ew, rw'⟩ := r.get k2
        have hl := r.length
        have hn := line63
        have fin : EP X pins σ Q w s := ⟨v, H, I, rw', h.val M rv⟩
        by_cases h0 : 0 ≤ k
        · have hj : k.toNat = j := by
            rw [seqIndex_of h0 k5] at k1
            exact Option.some.inj k1
          exact wpAny_getItem_list pl.isList h0 (by omega) (by rw [hj]; simpa using ew) fin
        · have hj : (k + (its.toArray.size : Int)).toNat = j := by
            rw [seqIndex_neg (by omega) k4] at k1
            rw [List.size_toArray, ← hl]
            exact Option.some.inj k1
          exact wpAny_getItem_list_neg pl.isList (by omega) (by rw [List.size_toArray] <;> omega) (by omega) (by rw [hj]; simpa using ew) fin
      · exact h.elim
    · exact h.elim
  · exact h.elim
theorem s_iaug (c : Cok g T p lv X W cd) {o : BOp} {a b e : Expr} {pos sp : Pos} {ra rb re : Sl → Mem → R Dn.D} (ha : PE X a (rdE g W ra)) (hb : PE X b (rdE g W rb)) (hn : noSl b = true) (he : PE X e (rdE g W re)) :
    PS X (.AugAssign (.Subscript a b sp) (bO o) e pos) (rdS g W fun δ m => (ra δ m).toS δ fun u m => (rb δ m).toS δ fun i m => (getS u i m).toS δ fun x m => (re δ m).toS δ fun y m => (augS o x y m).toS δ fun z m => (isetS u i z m).toS δ fun _ m => .ok .nx δ m) := by
  refine (ps_augS ha hb (get_ok (g := g)) he (aug_ok (g := g) o) (iset_ok (g := g)) (aug_sub hn)).imp fun D σ H h => rdS.to h fun δ u m ρ F u' H' M rs ru P => ?_
  refine ⟨δ, m, ρ, F, M, rs, PostS.to rs P fun i m2 i' H2 ρ2 F2 x2 M2 rs2 ri P2 => ?_⟩
  refine ⟨u, i, m2, ρ2, F2, WE W σ, M2, ru.mono x2, ri, PostS.to rs2 P2 fun x m3 x' H3 ρ3 F3 x3 M3 rs3 rx P3 => ?_⟩
  refine ⟨δ, m3, ρ3, F3, M3, rs3, PostS.to rs3 P3 fun y m4 y' H4 ρ4 F4 x4 M4 rs4 ry P4 => ?_⟩
  refine ⟨x, y, m4, ρ4, F4, WE W σ, M4, rx.mono x4, ry, PostS.to rs4 P4 fun z m5 z' H5 ρ5 F5 x5 M5 rs5 rz P5 => ?_⟩
  exact iset_set (D0 := D) M5 rs5 ((((ru.mono x2).mono x3).mono x4).mono x5) (((ri.mono x3).mono x4).mono x5) rz P5
theorem s_whl {c : Expr} {b : List Stmt} {pos : Pos} {rc : Sl → Mem → R Dn.D} {rb : Sl → Mem → S} (hp : PassesOwn (model X.prog X.w) X.A X.env X.xe) (hc : PT X c (rdT g W fun δ m => (rc δ m).bind asB)) (hb : PSs X b (rdS g W rb)) (n : Nat) :
    PS X (.While c b [] pos) (rdS g W fun δ m => whlRun (fun δ m => (rc δ m).bind asB) rb n δ m) := by
  refine (ps_while hp hc hb).imp fun D σ H h => ⟨fun n => rdS g W (whlRun (fun δ m => (rc δ m).bind asB) rb n) D, ⟨n, h⟩, fun n σ H h => ?_⟩
  cases n with
  | zero => obtain ⟨δ, m, ρ, F, M, rs, P⟩ := h; exact P.elim
  | succ n =>
    refine rdS.to (rel := RB') h fun δ d m ρ F v H' M rs r P => ?_
    subst r
    cases v with
    | false => exact P.next M rs
    | true =>
      rw [if_pos rfl]
      refine ⟨fun σ' H' => rdS g W (whlRun (fun δ m => (rc δ m).bind asB) rb n) D σ' H', fun σ' H' q => ⟨n, Nat.lt_succ_self n, q⟩, δ, m, ρ, F, M, rs, ?_⟩
      simp only [if_true] at P
      cases q : rb δ m with
      | no => rw [q] at P; exact P.elim
      | ex x δ' m' => rw [q] at P; exact P
      | ok f δ' m' =>
        rw [q] at P
        cases f with
        | nx => exact fun σ' H' ρ' F' x M' rs' => ⟨δ', m', ρ', F', M', rs', PostS.on x P⟩
        | ct => exact fun σ' H' ρ' F' x M' rs' => ⟨δ', m', ρ', F', M', rs', PostS.on x P⟩
        | br => exact fun σ' H' ρ' F' x M' rs' => P σ' H' ρ' F' x M' rs'
        | rt d => exact P
theorem s_for {t : Dn.T} {tg iter : Expr} {b : List Stmt} {pos : Pos} {rt : Sl → Mem → R Its} {rb : Sl → Mem → S} (hp : PassesOwn (model X.prog X.w) X.A X.env X.xe) (hc : X.calm = true) (hi : PI X tg iter (rdIt g W rt)) (hg : PG X tg (rdG g t)) (hb : PSs X b (rdS g W rb)) (hs : noSet iter = true) :
    PS X (.For tg iter b [] pos) (rdS g W fun δ m => (rt δ m).toS δ fun its m => forRun (fun x δ m => match asgT t x m δ with | some δ' => rb δ' m | none => .no) its its.l δ m) := by
  refine (ps_for hp hc hi hg hb (fold_ok hs)).imp fun D σ H h => rdS.to h fun δ its m ρ F J H1 M rs RJ P => ?_
  generalize hf : (fun x δ m => match asgT t x m δ with | some δ' => rb δ' m | none => .no) = f at P
  let Iv : Nat → L2.St → Hp → Prop := fun i σ' Hc => ∃ δ' m' ρ' F', On ρ F m.length ρ' F' m' ∧ MRel g ρ' F' m' Hc ∧ RSl g ρ' F' m'.length δ' σ' ∧ PostS g ρ' F' m' Hc (forRun f its (its.l.drop i) δ' m') D W
  refine ⟨fun i n σ' Hc => n = its.l.length - i ∧ i ≤ its.l.length ∧ Iv i σ' Hc, ⟨_, rfl, Nat.zero_le _, δ, m, ρ, F, On.refl, M, rs, P⟩, ?_⟩
  rintro i n σ' Hc ⟨rfl, hi', δ', m', ρ', F', on, M1, rs1, P1⟩
  by_cases hlt : i < its.l.length
  · have hdrop : its.l.drop i = its.l[i] :: its.l.drop (i + 1) := List.drop_eq_getElem_cons hlt
    rw [hdrop] at P1
    unfold forRun at P1
    split at P1
    · rename_i held
      obtain ⟨go, yl⟩ := (RJ ρ' F' m' Hc on M1 held i).1 its.l[i] (List.getElem?_eq_getElem hlt)
      refine .inr ⟨go, Iv (i + 1), fun σ2 H' q => ⟨_, by omega, rfl, hlt, q⟩, fun xv H' y => ?_⟩
      obtain ⟨F2, x2, M2, r2⟩ := yl xv H' y
      have P2 := PostS.on x2 P1
      have on2 := on.ext x2
      rw [← hf] at P2
      dsimp only at P2
      cases ea : asgT t its.l[i] m' δ' with
      | none => rw [ea] at P2; exact P2.elim
      | some δ2 =>
        rw [ea] at P2
        dsimp only at P2
        refine ⟨its.l[i], δ', m', ρ', F2, δ2, M2, r2, rs1.mono x2, ea, fun σ2 rs2 _ => ⟨δ2, m', ρ', F2, M2, rs2, ?_⟩⟩
        rw [hf] at P2
        cases q : rb δ2 m' with
        | no => rw [q] at P2; exact P2.elim
        | ex x δ3 m3 => rw [q] at P2; exact P2
        | ok fl δ3 m3 =>
          rw [q] at P2
          cases fl with
          | nx => exact fun σ3 H3 ρ3 F3 x3 M3 rs3 => ⟨δ3, m3, ρ3, F3, on2.ext x3, M3, rs3, PostS.on x3 P2⟩
          | ct => exact fun σ3 H3 ρ3 F3 x3 M3 rs3 => ⟨δ3, m3, ρ3, F3, on2.ext x3, M3, rs3, PostS.on x3 P2⟩
          | br => exact fun σ3 H3 ρ3 F3 x3 M3 rs3 => P2 σ3 H3 ρ3 F3 x3 M3 rs3
          | rt d => exact P2
    · exact P1.elim
  · have e : i = its.l.length := by omega
    subst e
    rw [List.drop_length] at P1
    unfold forRun at P1
    split at P1
    · rename_i held
      exact .inl ⟨(RJ ρ' F' m' Hc on M1 held _).2 (List.getElem?_eq_none (Nat.le_refl _)), P1.next M1 rs1⟩
    · exact P1.elim
end
end Dn

/-! Dn, part P: a, b = x, y; the check of statements is enough. -/
namespace Dn
open PySem PySem.Spec PyProof.Rows L2
section
variable {g : Gn} {W : WX} {X : Cx} {T : Tb} {p : Pg} {lv : Nat} {cd : Cd} {ρ ρ1 : Rho} {F F1 H H1 : Hp} {m m1 : Mem}
/-- an object that nobody knows -/
theorem step_alien {ho : HO} {a : Addr} (M : MRel g ρ F m H) (ha : H a = none) : Ext ρ F m H ρ F m (upd H a ho) ∧ MRel g ρ F m (upd H a ho) := by
  have fa := M.free ha
  refine ⟨⟨fun _ _ h => h, Nat.le_refl _, fun _ _ => rfl, fun _ h => h, fun k h l => absurd l.lt (Nat.not_lt.mpr h), fun b u h _ => by rw [upd_ne (ne_of_none h ha)]; exact h, fun b u h => ⟨u, by rw [upd_ne (ne_of_none h ha)]; exact h⟩, fun _ _ h => .inl h⟩, ⟨fun b u h => ?_, fun k u e => ?_, M.inj⟩⟩
  · rw [upd_ne (ne_of_none h fa)]; exact M.sub b u h
  · obtain ⟨f, ho', h1, h2⟩ := M.mem k u e
    exact ⟨f, ho', by rw [upd_ne (ne_of_none h1 ha)]; exact h1, h2⟩
def setsV (is : List Nat) (vs : List V) (σ : L2.St) : L2.St := (is.zip vs).foldl (fun σ p => σ.set p.1 (some p.2)) σ
theorem RSl.sets : ∀ {is : List Nat} {ds : List Dn.D} {vs : List V} {δ : Sl} {σ : L2.St}, RSl g ρ F m.length δ σ → RDs g ρ F m.length ds vs → RSl g ρ F m.length ((is.zip ds).foldl (fun δ p => δ.set p.1 (some p.2)) δ) (setsV is vs σ)
  | [], _, _, _, _, rs, _ => by simpa [setsV] using rs
  | _ :: _, [], [], _, _, rs, _ => by simpa [setsV] using rs
  | i :: is, d :: ds, v :: vs, δ, σ, rs, r => RSl.sets (is := is) (rs.set i r.1) r.2
  | _ :: _, [], _ :: _, _, _, _, r => r.elim
  | _ :: _, _ :: _, [], _, _, _, r => r.elim
def gNames (is : List Nat) : TGs := fun vs σ H Q => vs.length = is.length ∧ Q (setsV is vs σ) H
def namesOk (cd : Cd) : List Nat → List Expr → Bool
  | [], [] => true
  | i :: is, .Name x _ :: es => decide (cd.N[i]? = some x) && isLoc cd x && namesOk cd is es
  | _, _ => false
theorem names_ok (c : Cok g T p lv X W cd) : ∀ {is : List Nat} {es : List Expr}, namesOk cd is es = true → PGs X es (gNames is) ∧ es.all (fun e => match e with | .Name .. => true | .Tuple .. => true | _ => false) = true ∧ es.length = is.length
  | [], [], _ => ⟨pgs_nil.imp fun vs σ H Q ⟨h1, h2⟩ => by
      cases vs with
      | nil => exact ⟨rfl, h2⟩
      | cons _ _ => exact absurd h1 (by simp), rfl, rfl⟩
  | i :: is, .Name x pos :: es, h => by
    unfold namesOk at h
    obtain ⟨h, h3⟩ := and3 h
    obtain ⟨h1, h2⟩ := and3 h
    obtain ⟨k1, k2, k3⟩ := names_ok c h3
    obtain ⟨l1, l2⟩ := c.loc h2
    refine ⟨(pgs_cons (pg_name c.nd (by rw [c.N]; exact of_decide_eq_true h1) l1 l2) k1 rfl).imp fun vs σ H Q ⟨q1, q2⟩ => ?_, by rw [List.all_cons, k2]; rfl, by rw [List.length_cons, List.length_cons, k3]⟩
    cases vs with
    | nil => cases q1
    | cons v vs => exact ⟨v, vs, rfl, by simpa using q1, q2⟩
/-- .. by a tuple -/
theorem s_parT (c : Cok g T p lv X W cd) {is : List Nat} {ts vs : List Expr} {k1 k2 : Nat} {p1 p2 pos : Pos} {rl : Sl → Mem → R (List Dn.D)} (hn : namesOk cd is ts = true) (hz : is.length ≤ 100) (ha : PA X vs (rdA g W rl)) (hw : swappedStores [.Tuple ts k1 p1] (.Tuple vs k2 p2) X.env = pure none) :
    PS X (.Assign [.Tuple ts k1 p1] (.Tuple vs k2 p2) pos) (rdS g W fun δ m => (rl δ m).toS δ fun ds m => if ds.length = is.length then .ok .nx ((is.zip ds).foldl (fun δ p => δ.set p.1 (some p.2)) δ) m else .no) := by
  obtain ⟨n1, n2, n3⟩ := names_ok c hn
  obtain ⟨a1, a2⟩ := as_len (env := X.env) n2
  refine (ps_asg (pe_tup ha) (pg_tup c.calm n1 a1 a2) (sw_tgt rfl) hw rfl).imp fun D σ H h => rdS.to h fun δ ds m ρ F xs H' M rs r P => ?_
  split at P
  · rename_i hl
    have hl2 : xs.length = is.length := by rw [← r.length]; exact hl
    refine ⟨by rw [hl2]; exact Nat.le_trans hz (by decide), fun a ha => ⟨a, xs, rfl, SqT.of upd_same, by rw [hl2, n3], hl2, ?_⟩⟩
    obtain ⟨x1, M1⟩ := step_alien (ho := .tup xs) M ha
    exact P _ _ _ _ x1 M1 ((rs.sets r).mono x1)
  · exact P.elim
theorem s_par2 (c : Cok g T p lv X W cd) {i j : Nat} {x y : Str} {a b : Expr} {kt k2 : Nat} {px py pt pt2 pos : Pos} {rl : Sl → Mem → R (List Dn.D)} (hi : cd.N[i]? = some x) (hj : cd.N[j]? = some y) (hij : i ≠ j) (hx : isL cd x = true) (hy : isL cd y = true) (ha : PA X [a, b] (rdA g W rl))
    (hw : swappedStores [.Tuple [.Name x px, .Name y py] kt pt] (.Tuple [a, b] k2 pt2) X.env = pure (some [x, y])) :
    PS X (.Assign [.Tuple [.Name x px, .Name y py] kt pt] (.Tuple [a, b] k2 pt2) pos) (rdS g W fun δ m => (rl δ m).toS δ fun ds m => if ds.length = [i, j].length then .ok .nx (([i, j].zip ds).foldl (fun δ p => δ.set p.1 (some p.2)) δ) m else .no) := by
  refine (ps_par c.calm c.nd (by rw [c.N]; exact hi) (by rw [c.N]; exact hj) hij (c.lcl hx) (c.lcl hy) ha hw rfl).imp fun D σ H h => rdS.to h fun δ ds m ρ F xs H' M rs r P => ?_
  split at P
  · rename_i hl
    match ds, xs, r, hl with
    | [d, e], [v, w], r, _ => exact ⟨v, w, rfl, P.next M (rs.sets (is := [i, j]) r)⟩
  · exact P.elim
theorem s_par3 (c : Cok g T p lv X W cd) {i j l : Nat} {x y z : Str} {a b d : Expr} {kt k2 : Nat} {px py pz pt pt2 pos : Pos} {rl : Sl → Mem → R (List Dn.D)} (hi : cd.N[i]? = some x) (hj : cd.N[j]? = some y) (hk : cd.N[l]? = some z) (hij : i ≠ j) (hil : i ≠ l) (hjl : j ≠ l) (hx : isL cd x = true) (hy : isL cd y = true) (hz : isL cd z = true) (ha : PA X [a, b, d] (rdA g W rl))
    (hw : swappedStores [.Tuple [.Name x px, .Name y py, .Name z pz] kt pt] (.Tuple [a, b, d] k2 pt2) X.env = pure (some [x, y, z])) :
    PS X (.Assign [.Tuple [.Name x px, .Name y py, .Name z pz] kt pt] (.Tuple [a, b, d] k2 pt2) pos) (rdS g W fun δ m => (rl δ m).toS δ fun ds m => if ds.length = [i, j, l].length then .ok .nx (([i, j, l].zip ds).foldl (fun δ p => δ.set p.1 (some p.2)) δ) m else .no) := by
  refine (ps_par3 c.calm c.nd (by rw [c.N]; exact hi) (by rw [c.N]; exact hj) (by rw [c.N]; exact hk) hij hil hjl (c.lcl hx) (c.lcl hy) (c.lcl hz) ha hw rfl).imp fun D σ H h => rdS.to h fun δ ds m ρ F xs H' M rs r P => ?_
  split at P
  · rename_i hl
    match ds, xs, r, hl with
    | [d, e, f], [v, w, u], r, _ => exact ⟨v, w, u, rfl, P.next M (rs.sets (is := [i, j, l]) r)⟩
  · exact P.elim
/-! ### which way -/
def noSwap (cd : Cd) (ts vs : List Expr) : Bool := (ts.any fun t => match t with | .Name x _ => !isL cd x | _ => true) || vs.all (foldedForSure 8) || decide (3 < ts.length)
theorem isL_no (c : Cok g T p lv X W cd) {x : Str} (h : isL cd x = false) : (X.env.kindOf x == some NameKind.local) = false := by
  unfold isL at h
  unfold Env.kindOf
  rw [c.sc]
  cases q : cd.sc.names.lookup x with
  | none => rfl
  | some k =>
    rw [q] at h
    cases k <;> first | rfl | cases h
theorem isL_yes (c : Cok g T p lv X W cd) {x : Str} (h : isL cd x = true) : (X.env.kindOf x == some NameKind.local) = true := by
  have := c.lcl h
  unfold Env.kindOf
  rw [this]
  rfl
theorem noSwap_ok (c : Cok g T p lv X W cd) {ts vs : List Expr} {k1 k2 : Nat} {p1 p2 : Pos} (h : noSwap cd ts vs = true) : swappedStores [.Tuple ts k1 p1] (.Tuple vs k2 p2) X.env = pure none := by
  unfold swappedStores
  simp only [pure_bind]
  unfold noSwap at h
  split
  · rfl
  · rename_i z1
    split
    · rfl
    · split
      · rfl
      · rename_i z3
        split
        · rfl
        · rename_i z4
          exfalso
          rcases Bool.or_eq_true_iff.mp h with h | h
          · rcases Bool.or_eq_true_iff.mp h with h | h
            · apply z3
              rw [Bool.or_eq_true]
              left
              rw [bne_iff_ne]
              apply Nat.ne_of_lt
              rw [List.length_filterMap_lt_length_iff_exists]
              obtain ⟨t, ht, e⟩ := List.any_eq_true.mp h
              refine ⟨t, ht, ?_⟩
              cases t <;> first | rfl | skip
              rename_i x pos
              have := isL_no c (x := x) (by simpa using e)
              simp [this]
            · exact z4 h
          · apply z1
            have := of_decide_eq_true h
            have h2 : (ts.length == 2) = false := by simp; omega
            have h3 : (ts.length == 3) = false := by simp; omega
            rw [h2, h3]
            rfl
def swap2 (cd : Cd) (x y : Str) (px py : Pos) (a b : Expr) : Bool := isL cd x && isL cd y && decide (x ≠ y) && (py.line == px.line) && !(constantsAlone 8 a && constantsAlone 8 b) && !(foldedForSure 8 a && foldedForSure 8 b) && noStar a && noStar b && decide (cd.sc.kind = .function)
theorem noStar_m {a : Expr} (h : noStar a = true) : (match a with | .Starred .. => true | _ => false) = false := by cases a <;> first | rfl | cases h
theorem swap2_ok (c : Cok g T p lv X W cd) {x y : Str} {px py p1 p2 : Pos} {a b : Expr} {k1 k2 : Nat} (h : swap2 cd x y px py a b = true) : swappedStores [.Tuple [.Name x px, .Name y py] k1 p1] (.Tuple [a, b] k2 p2) X.env = pure (some [x, y]) := by
  unfold swap2 at h
  obtain ⟨h, h9⟩ := and3 h
  obtain ⟨h, h8⟩ := and3 h
  obtain ⟨h, h7⟩ := and3 h
  obtain ⟨h, h6⟩ := and3 h
  obtain ⟨h, h5⟩ := and3 h
  obtain ⟨h, h4⟩ := and3 h
  obtain ⟨h, h3⟩ := and3 h
  obtain ⟨h1, h2⟩ := and3 h
  have hb : X.env.blockKind = .function := by
    unfold Env.blockKind
    rw [c.sc, of_decide_eq_true h9]
    rfl
  have k1 := isL_yes c h1
  have k2 := isL_yes c h2
  have hxy : (x == y) = false := by simpa using of_decide_eq_true h3
  have hyx : (y == x) = false := by simpa using Ne.symm (of_decide_eq_true h3)
  unfold swappedStores
  simp only [pure_bind, hb, noStar_m h7, noStar_m h8, List.any_cons, List.any_nil, List.filterMap_cons, List.filterMap_nil, k1, k2, List.head?_cons, Option.map_some, Option.getD_some, Expr.pos, h4, beq_self_eq_true, Bool.and_true, if_true, List.all_cons, List.all_nil]
  have e1 : [x, y].eraseDups.length = 2 := by simp [List.eraseDups_cons, hxy, hyx]
  rw [if_neg (by simp), if_neg, if_neg (by rw [e1]; simp), if_neg (fun z => by rw [z] at h6; cases h6), if_neg (fun z => by rw [z] at h5; cases h5)]
  intro z
  rcases Bool.or_eq_true_iff.mp z with z | z
  · split at z
    · cases h7
    · cases z
  · rw [Bool.or_false] at z
    split at z
    · cases h8
    · cases z
def swap3 (cd : Cd) (x y z : Str) (px py pz : Pos) (a b d : Expr) : Bool := isL cd x && isL cd y && isL cd z && decide (x ≠ y) && decide (x ≠ z) && decide (y ≠ z) && (py.line == px.line) && (pz.line == px.line) && !(constantsAlone 8 a && (constantsAlone 8 b && constantsAlone 8 d)) && !(foldedForSure 8 a && (foldedForSure 8 b && foldedForSure 8 d)) && noStar a && noStar b && noStar d && decide (cd.sc.kind = .function)
theorem swap3_ok (c : Cok g T p lv X W cd) {x y z : Str} {px py pz p1 p2 : Pos} {a b d : Expr} {k1 k2 : Nat} (h : swap3 cd x y z px py pz a b d = true) : swappedStores [.Tuple [.Name x px, .Name y py, .Name z pz] k1 p1] (.Tuple [a, b, d] k2 p2) X.env = pure (some [x, y, z]) := by
  unfold swap3 at h
  obtain ⟨h, h14⟩ := and3 h
  obtain ⟨h, h13⟩ := and3 h
  obtain ⟨h, h12⟩ := and3 h
  obtain ⟨h, h11⟩ := and3 h
  obtain ⟨h, h10⟩ := and3 h
  obtain ⟨h, h9⟩ := and3 h
  obtain ⟨h, h8⟩ := and3 h
  obtain ⟨h, h7⟩ := and3 h
  obtain ⟨h, h6⟩ := and3 h
  obtain ⟨h, h5⟩ := and3 h
  obtain ⟨h, h4⟩ := and3 h
  obtain ⟨h, h3⟩ := and3 h
  obtain ⟨h1, h2⟩ := and3 h
  have hb : X.env.blockKind = .function := by
    unfold Env.blockKind
    rw [c.sc, of_decide_eq_true h14]
    rfl
  have k1 := isL_yes c h1
  have k2 := isL_yes c h2
  have k3 := isL_yes c h3
  have yx : (y == x) = false := by simpa using Ne.symm (of_decide_eq_true h4)
  have zx : (z == x) = false := by simpa using Ne.symm (of_decide_eq_true h5)
  have zy : (z == y) = false := by simpa using Ne.symm (of_decide_eq_true h6)
  unfold swappedStores
  simp only [pure_bind, hb, List.any_cons, List.any_nil, List.filterMap_cons, List.filterMap_nil, k1, k2, k3, List.head?_cons, Option.map_some, Option.getD_some, Expr.pos, h7, h8, beq_self_eq_true, Bool.and_true, if_true, List.all_cons, List.all_nil]
  have e1 : [x, y, z].eraseDups.length = 3 := by simp [List.eraseDups_cons, yx, zx, zy]
  rw [if_neg (by simp), if_neg, if_neg (by rw [e1]; simp), if_neg (fun z => by rw [z] at h10; cases h10), if_neg (fun z => by rw [z] at h9; cases h9)]
  intro q
  rcases Bool.or_eq_true_iff.mp q with q | q
  · split at q
    · cases h11
    · cases q
  rcases Bool.or_eq_true_iff.mp q with q | q
  · split at q
    · cases h12
    · cases q
  · rw [Bool.or_false] at q
    split at q
    · cases h13
    · cases q
theorem swap2_l {cd : Cd} {x y : Str} {px py : Pos} {a b : Expr} (h : swap2 cd x y px py a b = true) : isL cd x = true ∧ isL cd y = true := by
  unfold swap2 at h
  simp only [Bool.and_eq_true] at h
  exact h.1.1.1.1.1.1.1
theorem swap3_l {cd : Cd} {x y z : Str} {px py pz : Pos} {a b d : Expr} (h : swap3 cd x y z px py pz a b d = true) : (isL cd x = true ∧ isL cd y = true) ∧ isL cd z = true := by
  unfold swap3 at h
  simp only [Bool.and_eq_true] at h
  exact h.1.1.1.1.1.1.1.1.1.1.1
/-! ### the check -/
def swB (cd : Cd) (x : Str) (np cp : Pos) (scope : Scope) : Bool := isL cd x && (np.line == cp.line) && !(scope.names.any fun (n, k) => n == x && (k == .local || k == .cell))
theorem sw_lc (c : Cok g T p lv X W cd) {ee : Expr} {gs : List Comprehension} {scope : Scope} {x : Str} {np cp : Pos} {l : Nat} (hk : cd.sc.kind = .function) : swapsWith (.ListComp ee gs scope cp) (some (.Name x np)) l X.env = pure (swB cd x np cp scope) := by
  have hb : X.env.blockKind = .function := by
    unfold Env.blockKind
    rw [c.sc, hk]
    rfl
  have ek : (X.env.kindOf x == some NameKind.local) = isL cd x := by
    cases q : isL cd x with
    | true => exact isL_yes c q
    | false => exact isL_no c q
  unfold swapsWith swB
  simp only [hb, ek, Expr.pos]
  rfl
mutual
def chkS (T : Tb) (cd : Cd) : RS → Stmt → Bool
  | .set i e, s => match s with
    | .Assign [.Name x np] v _ => decide (cd.N[i]? = some x) && isLoc cd x && decide (cd.sc.kind = .function) && chkE T cd e v && (match v with
      | .ListComp .. => (match e with | .lc .. => true | _ => false)
      | _ => noComp v)
    | _ => false
  | .asg t e, s => match s with
    | .Assign [.Tuple ts k tp] v _ => chkT cd t (.Tuple ts k tp) && chkE T cd e v && (match v with | .Tuple .. => false | _ => true)
    | _ => false
  | .par is l, s => match s with
    | .Assign [.Tuple ts _ _] (.Tuple vs _ _) _ => namesOk cd is ts && chkL T cd l vs && decide (is.length ≤ 100) && (noSwap cd ts vs || (match is, ts, vs with
      | [i, j], [.Name x px, .Name y py], [a, b] => decide (i ≠ j) && swap2 cd x y px py a b
      | [i, j, k], [.Name x px, .Name y py, .Name z pz], [a, b, d] => decide (i ≠ j) && decide (i ≠ k) && decide (j ≠ k) && swap3 cd x y z px py pz a b d
      | _, _, _ => false))
    | _ => false
  | .iset a b e, s => match s with
    | .Assign [.Subscript x y _] v _ => chkE T cd a x && chkE T cd b y && noSl y && chkE T cd e v
    | _ => false
  | .aug i o e, s => match s with
    | .AugAssign (.Name x _) op v _ => decide (cd.N[i]? = some x) && isLoc cd x && decide (op = bO o) && chkE T cd e v
    | _ => false
  | .iaug a b o e, s => match s with
    | .AugAssign (.Subscript x y _) op v _ => chkE T cd a x && chkE T cd b y && noSl y && decide (op = bO o) && chkE T cd e v
    | _ => false
  | .ex e, s => match s with
    | .Expr v _ => chkE T cd e v && noComp v
    | _ => false
  | .ret e, s => match s with
    | .Return (some v) _ => chkE T cd e v
    | .Return none _ => (match e with | .cst .non => true | _ => false)
    | _ => false
  | .ite c a b, s => match s with
    | .If x y z _ => chkE T cd c x && noIf x && chkB T cd a y && chkB T cd b z
    | _ => false
  | .forr t it b, s => match s with
    | .For tg iter y [] _ => chkT cd t tg && chkI T cd it tg iter && noSet iter && chkB T cd b y
    | _ => false
  | .whl _ c b, s => match s with
    | .While x y [] _ => chkE T cd c x && noIf x && chkB T cd b y
    | _ => false
  | .pas, s => match s with
    | .Pass _ => true
    | _ => false
  | .brk, s => match s with
    | .Break _ => true
    | _ => false
  | .cnt, s => match s with
    | .Continue _ => true
    | _ => false
def chkB (T : Tb) (cd : Cd) : RB → List Stmt → Bool
  | .nil, l => l.isEmpty
  | .cons s b, l => match l with
    | x :: l => chkS T cd s x && chkB T cd b l
    | [] => false
end
theorem tup_asg {ts : List Expr} {k : Nat} {tp : Pos} {env : Env} : (assignEach [Expr.Tuple ts k tp] env).map (·.2) = [assign (.Tuple ts k tp) env] := rfl
theorem swapped_no {ts : List Expr} {k : Nat} {tp : Pos} {v : Expr} {env : Env} (h : (match v with | .Tuple .. => false | _ => true) = true) : swappedStores [.Tuple ts k tp] v env = pure none := by cases v <;> first | rfl | cases h
mutual
theorem sS : ∀ (rs : RS) {X : Cx} {W : WX} {cd : Cd} (c : Cok g T p lv X W cd) (hp : PassesOwn (model X.prog X.w) X.A X.env X.xe) {s : Stmt}, chkS T cd rs s = true → PS X s (rdS g W (denS (callAt p lv) p.gv rs))
  | .set i e, X, W, cd, c, hp, s, h => by
    unfold chkS at h
    split at h
    · rename_i x np v pos
      simp only [Bool.and_eq_true] at h
      obtain ⟨⟨⟨⟨h1, h2⟩, h3⟩, h4⟩, h5⟩ := h
      have h1 := of_decide_eq_true h1
      have h3 := of_decide_eq_true h3
      split at h5
      · rename_i ee gs scope cp
        cases q : swB cd x np cp scope with
        | false => exact s_set c h1 h2 (sE e c h4).pe (by rw [sw_lc c h3, q])
        | true =>
          split at h5
          · rename_i mu elt t it cnd own
            obtain ⟨ee', tg, iter, ifs, scope', pos', e1, L⟩ := lcP_mk c h4 (fun q => sI it c q) (fun c' q => sC cnd c' q) (fun c' q => (sE elt c' q).pe)
            cases e1
            refine s_setLc c h1 ?_ L (by rw [sw_lc c h3, q])
            unfold swB at q
            exact (and3 (and3 q).1).1
          · cases h5
      · exact s_set c h1 h2 (sE e c h4).pe (sw_none h5)
    · cases h
  | .asg t e, X, W, cd, c, hp, s, h => by
    unfold chkS at h
    split at h
    · obtain ⟨h, h3⟩ := and3 h
      obtain ⟨h1, h2⟩ := and3 h
      exact s_asg (sE e c h2).pe (g_ok c h1) (sw_tgt rfl) (swapped_no h3) tup_asg
    · cases h
  | .par is l, X, W, cd, c, hp, s, h => by
    unfold chkS at h
    split at h
    · obtain ⟨h, h4⟩ := and3 h
      obtain ⟨h, h3⟩ := and3 h
      obtain ⟨h1, h2⟩ := and3 h
      rcases Bool.or_eq_true_iff.mp h4 with h4 | h4
      · exact s_parT c h1 (of_decide_eq_true h3) (sL l c h2) (noSwap_ok c h4)
      · split at h4
        · obtain ⟨h4, h5⟩ := and3 h4
          obtain ⟨s1, s2⟩ := swap2_l h5
          obtain ⟨n1, n2⟩ := and3 h1
          obtain ⟨n2, n3⟩ := and3 n2
          exact s_par2 c (of_decide_eq_true (and3 n1).1) (of_decide_eq_true (and3 n2).1) (of_decide_eq_true h4) s1 s2 (sL l c h2) (swap2_ok c h5)
        · obtain ⟨h4, h5⟩ := and3 h4
          obtain ⟨h4, h43⟩ := and3 h4
          obtain ⟨h41, h42⟩ := and3 h4
          obtain ⟨⟨s1, s2⟩, s3⟩ := swap3_l h5
          obtain ⟨n1, n2⟩ := and3 h1
          obtain ⟨n2, n3⟩ := and3 n2
          obtain ⟨n3, n4⟩ := and3 n3
          exact s_par3 c (of_decide_eq_true (and3 n1).1) (of_decide_eq_true (and3 n2).1) (of_decide_eq_true (and3 n3).1) (of_decide_eq_true h41) (of_decide_eq_true h42) (of_decide_eq_true h43) s1 s2 s3 (sL l c h2) (swap3_ok c h5)
        · cases h4
    · cases h
  | .iset a b e, X, W, cd, c, hp, s, h => by
    unfold chkS at h
    split at h
    · obtain ⟨h, h4⟩ := and3 h
      obtain ⟨h, h3⟩ := and3 h
      obtain ⟨h1, h2⟩ := and3 h
      exact s_iset (sE a c h1).pe (sE b c h2).pe h3 (sE e c h4).pe
    · cases h
  | .aug i o e, X, W, cd, c, hp, s, h => by
    unfold chkS at h
    split at h
    · obtain ⟨h, h4⟩ := and3 h
      obtain ⟨h, h3⟩ := and3 h
      obtain ⟨h1, h2⟩ := and3 h
      have h3 := of_decide_eq_true h3
      subst h3
      exact s_aug c (of_decide_eq_true h1) h2 (sE e c h4).pe
    · cases h
  | .iaug a b o e, X, W, cd, c, hp, s, h => by
    unfold chkS at h
    split at h
    · obtain ⟨h, h5⟩ := and3 h
      obtain ⟨h, h4⟩ := and3 h
      obtain ⟨h, h3⟩ := and3 h
      obtain ⟨h1, h2⟩ := and3 h
      have h4 := of_decide_eq_true h4
      subst h4
      exact s_iaug c (sE a c h1).pe (sE b c h2).pe h3 (sE e c h5).pe
    · cases h
  | .ex e, X, W, cd, c, hp, s, h => by
    unfold chkS at h
    split at h
    · obtain ⟨h1, h2⟩ := and3 h
      exact s_ex (sE e c h1).pe h2
    · cases h
  | .ret e, X, W, cd, c, hp, s, h => by
    unfold chkS at h
    split at h
    · exact s_ret (sE e c h).pe
    · split at h
      · exact s_retN
      · cases h
    · cases h
  | .ite d a b, X, W, cd, c, hp, s, h => by
    unfold chkS at h
    split at h
    · obtain ⟨h, h4⟩ := and3 h
      obtain ⟨h, h3⟩ := and3 h
      obtain ⟨h1, h2⟩ := and3 h
      exact s_ite ((sE d c h1).pt h2) (sB a c hp h3) (sB b c hp h4)
    · cases h
  | .forr t it b, X, W, cd, c, hp, s, h => by
    unfold chkS at h
    split at h
    · obtain ⟨h, h4⟩ := and3 h
      obtain ⟨h, h3⟩ := and3 h
      obtain ⟨h1, h2⟩ := and3 h
      exact s_for hp c.calm (sI it c h2) (g_ok c h1) (sB b c hp h4) h3
    · cases h
  | .whl n d b, X, W, cd, c, hp, s, h => by
    unfold chkS at h
    split at h
    · obtain ⟨h, h3⟩ := and3 h
      obtain ⟨h1, h2⟩ := and3 h
      exact s_whl hp ((sE d c h1).pt h2) (sB b c hp h3) n
    · cases h
  | .pas, X, W, cd, c, hp, s, h => by
    unfold chkS at h
    split at h
    · exact s_pas
    · cases h
  | .brk, X, W, cd, c, hp, s, h => by
    unfold chkS at h
    split at h
    · exact s_brk
    · cases h
  | .cnt, X, W, cd, c, hp, s, h => by
    unfold chkS at h
    split at h
    · exact s_cnt
    · cases h
theorem sB : ∀ (rb : RB) {X : Cx} {W : WX} {cd : Cd} (c : Cok g T p lv X W cd) (hp : PassesOwn (model X.prog X.w) X.A X.env X.xe) {l : List Stmt}, chkB T cd rb l = true → PSs X l (rdS g W (denB (callAt p lv) p.gv rb))
  | .nil, X, W, cd, c, hp, l, h => by
    unfold chkB at h
    cases l with
    | nil => exact b_nil
    | cons _ _ => cases h
  | .cons s b, X, W, cd, c, hp, l, h => by
    unfold chkB at h
    split at h
    · obtain ⟨h1, h2⟩ := and3 h
      exact b_cons (sS s c hp h1) (sB b c hp h2)
    · cases h
end
end
end Dn

/-! Dn, part Q: defs. -/
namespace Dn
open PySem PySem.Spec PyProof.Rows L2
/-- a def as it stands behind the top -/
structure FnK (g : Gn) (T : Tb) (p : Pg) (K : PySem.W.Frag) (mg : Str → Option Value) (f : Nat) (x : Str) (a : Addr) (fd : FuncData) (ps : List Str) : Prop where
  ex : ∃ (qual : Str) (params : Arguments) (body : List Stmt) (scope : Scope) (N : List Str) (d : FD),
    p.fd f = some d ∧ FunD K x qual params body scope [] [] a fd ∧ FnScope N ps scope ∧ chkB T ⟨N, scope, fun _ => true⟩ d.body body = true ∧ N.length = d.ns ∧ ps.length = d.np ∧ d.df = [] ∧ d.st = false
  at_ : mg x = some (.ref a)
  bnd : Binds K fd ps []
  kw : ∀ np ks pm, T.kw f np ks = some pm → pm.length = ps.length ∧ (∀ i ∈ pm, i < np + ks.length) ∧ KBn K fd ps np ks (permL pm) (permL pm)
structure Base (g : Gn) (T : Tb) (p : Pg) (mg : Str → Option Value) : Prop where
  kf : Kf g
  bl : ∀ x ∈ (["isinstance", "range", "zip", "len", "int", "abs", "list", "tuple", "all", "any", "sum", "str", "bool", "dict", "enumerate", "sorted", "min", "max", "set", "type"] : List String), mg (Str.ofString x) = none
  gl : ∀ n x, T.gl n = some x → ∃ v u, mg x = some u ∧ RelV v u ∧ ∀ F, RP g F (p.gv n) v
  cn : ∀ n x, T.cn n = some x → mg x = some (.ref (g.cA n)) ∧ g.cs n = true
  fn : ∀ f x, T.fn f = some x → ∃ a fd ps, FnK g T p g.K mg f x a fd ps
def spL (g : Gn) (p : Pg) (lv f : Nat) (n : Nat) : Sp := fun vs H Q E => vs.length = n ∧ ∃ ds m ρ F, MRel g ρ F m H ∧ RDs g ρ F m.length ds vs ∧ PostD g ρ F m H (callAt p lv f ds m) Q E
section
variable {g : Gn} {T : Tb} {p : Pg} {lv : Nat} {P : Program} {w : World} {mg : Str → Option Value} {base : Heap}
theorem args_plain {d : FD} (h1 : d.df = []) (h2 : d.st = false) {l l' : List D} (h : argsD d l = some l') : l' = l ∧ l.length = d.np := by
  unfold argsD at h
  rw [h2, h1] at h
  simp only [List.length_nil, Nat.add_zero, List.drop_nil, List.map_nil, List.append_nil] at h
  split at h
  · rename_i hl
    cases h
    exact ⟨rfl, by omega⟩
  · cases h
theorem runD_args {cl : Nat → List D → Mem → R D} {gv : Nat → Dn.P} {d : FD} (h1 : d.df = []) (h2 : d.st = false) {l : List D} {m : Mem} {ρ : Rho} {F H : Hp} {Q : VK} {E : XK} (h : PostD g ρ F m H (runD cl gv d l m) Q E) : l.length = d.np ∧ argsD d l = some l := by
  unfold runD at h
  split at h
  · rename_i l' e
    obtain ⟨rfl, e2⟩ := args_plain h1 h2 e
    exact ⟨e2, e⟩
  · exact h.elim
theorem start_ok {ρ : Rho} {F : Hp} {k n : Nat} {N : List Str} {ds : List D} {vs : List V} (r : RDs g ρ F k ds vs) (hn : N.length = n) : RSl g ρ F k (startD n ds) (L2.start N vs) := by
  have hl := r.length
  refine ⟨by unfold startD L2.start; simp [hl, hn], fun i d e => ?_⟩
  unfold startD at e
  unfold L2.start
  by_cases hi : i < ds.length
  · rw [List.getElem?_append_left (by simpa using hi), List.getElem?_map] at e
    obtain ⟨d', e1, e2⟩ := Option.map_eq_some_iff.mp e
    cases e2
    obtain ⟨v, e3, r3⟩ := r.get e1
    exact ⟨v, by rw [List.getElem?_append_left (by rw [List.length_map, ← hl]; exact hi), List.getElem?_map, e3]; rfl, r3⟩
  · rw [List.getElem?_append_right (by simpa using hi)] at e
    have := List.getElem?_eq_some_iff.mp e
    obtain ⟨h1, h2⟩ := this
    simp at h2
theorem FnR_of {a : Addr} {fd : FuncData} {ps : List Str} {f : Nat} {x : Str} (k : FnK g T p g.K mg f x a fd ps) {j : Nat} (Fn : FnOk P w g.K mg base (L2.CX P w) j a fd ps (spL g p lv f ps.length)) :
    FnR P w g.K mg base (L2.CX P w) j a (fun vs H Q E => ∃ ds m ρ F, MRel g ρ F m H ∧ RDs g ρ F m.length ds vs ∧ PostD g ρ F m H (callAt p lv f ds m) Q E) := by
  refine (FnOk.raw Fn k.bnd (dvs := []) .nil).imp fun vs H Q E ⟨ds, m, ρ, F, M, r, h⟩ => ?_
  rw [List.append_nil]
  refine ⟨?_, ds, m, ρ, F, M, r, h⟩
  obtain ⟨qual, params, body, scope, N, d, e1, _, _, _, _, e2, e3, e4⟩ := k.ex
  cases lv with
  | zero => exact h.elim
  | succ lv =>
    unfold callAt at h
    rw [e1] at h
    rw [← r.length, e2]
    exact (runD_args e3 e4 h).1
/-- every def of the text, at every depth -/
theorem all_fn (B : Base g T p mg) : ∀ (lv f : Nat) (x : Str), T.fn f = some x → ∀ (a : Addr) (fd : FuncData) (ps : List Str), FnK g T p g.K mg f x a fd ps → FnOk P w g.K mg base (L2.CX P w) (lv + 2) a fd ps (spL g p lv f ps.length)
  | 0, f, x, hf, a, fd, ps, k => ⟨fun vs H Q E h => h.1, fun A outer s H args us vs Q E _ _ _ _ ⟨_, ds, m, ρ, F, M, r, h⟩ => h.elim⟩
  | lv + 1, f, x, hf, a, fd, ps, k => by
    obtain ⟨qual, params, body, scope, N, d, e1, e2, S, e3, e4, e5, e6, e7⟩ := k.ex
    refine e2.ok S (fun vs H Q E h => h.1) fun cdv A outer s H vs Q E hr ⟨hl, ds, m, ρ, F, M, r, h⟩ => ?_
    unfold callAt at h
    rw [e1] at h
    obtain ⟨h1, h2⟩ := runD_args e6 e7 h
    dsimp only at h
    unfold runD at h
    rw [h2] at h
    dsimp only at h
    have c : Cok g T p lv (cxOf (L2.CX P w) P w g.K mg base N qual scope a cdv A outer s H E) (fun cls dd _ H => E cls dd H) ⟨N, scope, fun _ => true⟩ := {
      K := rfl
      kf := B.kf
      N := rfl
      sc := rfl
      fn := rfl
      nd := S.nd
      calm := rfl
      tk := takes_of rfl rfl rfl rfl
      room := hr
      bl := B.bl
      call := fun f' x' hf' => by
        obtain ⟨a', fd', ps', k'⟩ := B.fn f' x' hf'
        have Fn := all_fn B lv f' x' hf' a' fd' ps' k'
        obtain ⟨_, _, _, _, _, _, _, e2', _⟩ := k'.ex
        exact ⟨a', k'.at_, e2'.kp, FnR_of k' Fn⟩
      callK := fun f' x' np ks pm hf' hp => by
        obtain ⟨a', fd', ps', k'⟩ := B.fn f' x' hf'
        have Fn := all_fn B lv f' x' hf' a' fd' ps' k'
        obtain ⟨_, _, _, _, _, _, _, e2', _⟩ := k'.ex
        obtain ⟨q1, q2, q3⟩ := k'.kw np ks pm hp
        exact ⟨a', fd', ps', k'.at_, e2'.kp, Fn, q1, q2, q3⟩
      gl := B.gl
      cn := B.cn }
    refine ⟨_, sB d.body c (passes_of rfl) e3, startD d.ns ds, m, ρ, F, M, start_ok r e4, ?_⟩
    cases q : denB (callAt p lv) p.gv d.body (startD d.ns ds) m with
    | no => rw [q] at h; exact h.elim
    | ex x δ' m' =>
      rw [q] at h
      exact fun σ cls dd H' ρ' F' e M' _ rx => h cls dd H' ρ' F' e M' rx
    | ok fl δ' m' =>
      rw [q] at h
      cases fl with
      | rt dv => exact fun σ H' ρ' F' e M' _ v rv => h v H' ρ' F' e M' rv
      | nx => exact fun σ H' ρ' F' e M' _ => h .non H' ρ' F' e M' RP.non
      | br => exact h.elim
      | ct => exact h.elim
end
end Dn

/-! Dn, part R: the end. -/
namespace Dn
open PySem PySem.Spec PyProof.Rows L2
theorem mem_lk {α : Type} : ∀ {l : List (Nat × α)} {n : Nat} {x : α}, l.lookup n = some x → (n, x) ∈ l
  | (k, v) :: r, n, x, h => by
    rw [List.lookup_cons] at h
    cases hb : n == k with
    | true =>
      rw [hb] at h
      cases h
      rw [beq_iff_eq.mp hb]
      exact List.mem_cons_self
    | false =>
      rw [hb] at h
      exact List.mem_cons_of_mem _ (mem_lk h)
def fnScopeB (N ps : List Str) (sc : Scope) : Bool := decide (sc.kind = .function) && !sc.isCoroutine && !sc.isGenerator && decide N.Nodup && decide (N.take ps.length = ps) &&
  ps.all (fun x => match sc.names.lookup x with | some .local => true | some .cell => true | _ => false) && sc.names.all (fun y => decide (y.2 ≠ .free))
theorem fnScope_ok {N ps : List Str} {sc : Scope} (h : fnScopeB N ps sc = true) : FnScope N ps sc := by
  unfold fnScopeB at h
  simp only [Bool.and_eq_true] at h
  obtain ⟨⟨⟨⟨⟨⟨h1, h2⟩, h3⟩, h4⟩, h5⟩, h6⟩, h7⟩ := h
  refine ⟨of_decide_eq_true h1, by simpa using h2, by simpa using h3, of_decide_eq_true h4, of_decide_eq_true h5, fun x hx => ?_, fun y hy => of_decide_eq_true (List.all_eq_true.mp h7 y hy)⟩
  have := List.all_eq_true.mp h6 x hx
  split at this
  · rename_i e; exact .inl e
  · rename_i e; exact .inr e
  · cases this
def defB (T : Tb) (d : FD) (N ps : List Str) (st : Stmt) : Bool := chkB T ⟨N, defScope st, fun _ => true⟩ d.body (defBody st) && fnScopeB N ps (defScope st) && decide (N.length = d.ns) && decide (ps.length = d.np) && d.df.isEmpty && !d.st
theorem mk_fn {g : Gn} {T : Tb} {p : Pg} {mg : Str → Option Value} {f : Nat} {x qual : Str} {a : Addr} {fd : FuncData} {N ps : List Str} {st : Stmt} {d : FD} (F : FunD g.K x qual (defArgs st) (defBody st) (defScope st) [] [] a fd) (hp : p.fd f = some d) (h : defB T d N ps st = true) (at_ : mg x = some (.ref a))
    (bnd : Binds g.K fd ps []) (kw : ∀ np ks pm, T.kw f np ks = some pm → pm.length = ps.length ∧ (∀ i ∈ pm, i < np + ks.length) ∧ KBn g.K fd ps np ks (permL pm) (permL pm)) : FnK g T p g.K mg f x a fd ps := by
  unfold defB at h
  simp only [Bool.and_eq_true] at h
  obtain ⟨⟨⟨⟨⟨h1, h2⟩, h3⟩, h4⟩, h5⟩, h6⟩ := h
  exact ⟨⟨qual, _, _, _, N, d, hp, F, fnScope_ok h2, h1, of_decide_eq_true h3, of_decide_eq_true h4, by simpa using h5, by simpa using h6⟩, at_, bnd, kw⟩
theorem sp_law {g : Gn} {p : Pg} {lv f : Nat} {ns : List Int} {H : Hp} {a : Addr} {E : XK} (h : ∃ m, callAt p lv f [.p (.scr ns)] [] = .ok (.p (.bl true)) m) (hS : SqL g.K H a (ns.map V.int)) : spL g p lv f 1 [.ref a] H (fun v _ => v = .bl true) E := by
  obtain ⟨m, e⟩ := h
  refine ⟨rfl, [.p (.scr ns)], [], fun _ => 0, H, ⟨Sub.of fun _ _ h => h, fun n o h => ?_, fun n n' ⟨o, h⟩ => ?_⟩, ⟨RP.scr hS, trivial⟩, ?_⟩
  · simp at h
  · simp at h
  · rw [e]
    intro v H' ρ' F' x M r
    cases r
    rfl
theorem perm_vals {l : List V} {us : List Value} (r : Vals l us) : ∀ pm : List Nat, Vals (pm.filterMap (l[·]?)) (pm.filterMap (us[·]?))
  | [] => .nil
  | i :: pm => by
    rw [List.filterMap_cons, List.filterMap_cons]
    cases e : l[i]? with
    | none =>
      rw [r.none_of e]
      exact perm_vals r pm
    | some v =>
      obtain ⟨u, e1, r3⟩ := r.get e
      rw [e1]
      exact .cons r3 (perm_vals r pm)
theorem kbn_of {K : PySem.W.Frag} {fd : FuncData} {ps ks : List Str} {np : Nat} {pm : List Nat} (h : ∀ us ws : List Value, us.length = np → ws.length = ks.length → bindArgs fd ⟨us, ks.zip ws⟩ = pure (ps.zip (permL pm us ws))) : KBn K fd ps np ks (permL pm) (permL pm) where
  to := fun s us ws _ h1 h2 => .of_eq (h us ws h1 h2)
  rel := fun {vs us zs ws} r1 r2 => perm_vals (r1.append r2) pm
theorem dn_walk {l : PySem.W.OpenLaw} {n k : Nat} {q : Program} {loose : List Str} {XP : (Str → Option Value) → Heap → Prop} {YP : World → Heap → Prop} {d : DefRec} {x : Str}
    (hn : l.most = some n) (hn2 : n ≤ sizeLine) (hdf : d.params.defaults = []) (hr : Room k callerA)
    (F : ∀ (w : World) (mg : Str → Option Value) (fa : Addr) (h : Heap), YP w h → h.Ns mainGlobals mg → mg d.name = some (.ref fa) →
      ∃ (K : PySem.W.Frag) (fd : FuncData) (sp : Sp), K.In h ∧ (∀ (s : Shared) (u : Value), BindsTo s fd ⟨[u], []⟩ [(x, u)]) ∧
        (∀ (H : Hp) (a : Addr) (ns : List Int), ns.length ≤ n → (∀ k ∈ ns, Builtin.Int.intBits k ≤ 1048576) → SqL K H a (ns.map V.int) → sp [.ref a] H (fun v _ => v = .bl true) fun _ _ _ => False) ∧
        ∀ base : Heap, K.In base → base.Ns mainGlobals mg → FnOk l.prog w K mg base (L2.CX l.prog w) k fa fd [x] sp) :
    PySem.W.WalkO q loose XP YP l.row.toRowW d [] (fun f vs => PySem.call f vs) := by
  refine Att.attach_callB hn hdf fun w s₀ s₁ mg mb fa o pm cd doc a vs ns G Y ho hd hcd hmg hobj hints hlen hbits hg => ?_
  obtain ⟨K, fd, sp, KX, hb, hsp, hF⟩ := F w mg fa _ Y G.T.g hmg
  refine law_call KX G.T.g G.T.b G.T.builtins G.T.nolimit hg hobj hints (Nat.le_trans hlen hn2) hr hF hb (fun H hO hS => hsp H a ns hlen hbits hS) fun H e s' z => ?_
  obtain ⟨_, _, _, _, _, _, _, _, _, _, _, _, z⟩ := z
  exact z
end Dn

/-! Dn, part T: defs that many laws share, copied. -/
noncomputable section
namespace Dn
/-! is_number -/
def B_is_number_0 : RB := .cons (.ret (.and (.isi (.var 0) true [.int]) (.not (.isi (.var 0) true [.bool])))) .nil
def D_is_number : FD := ⟨1, 1, [], false, B_is_number_0⟩
/-! is_name -/
def B_is_name_0 : RB := .cons (.ret (.bcl .all (.cons (.lc false (.cmp .inn (.var 1) (.glo 0)) (.nm 1) (.seq (.var 0)) .none [1]) .nil))) .nil
def B_is_name_1 : RB := .cons (.ret (.cst (.bl false))) .nil
def B_is_name_2 : RB := .cons (.ite (.or (.not (.isi (.var 0) true [.str])) (.not (.cmp2 .le .le (.cst (.int 1)) (.bcl .len (.cons (.var 0) .nil)) (.glo 1)))) B_is_name_1 .nil) B_is_name_0
def D_is_name : FD := ⟨1, 2, [], false, B_is_name_2⟩
/-! _law_bag -/
def B__law_bag_0 : RB := .cons (.ret (.lst true (.cons (.bcl .list (.cons (.sl (.var 0) .none (.some (.cst (.int 63)))) .nil)) (.cons (.cst (.int 0)) (.cons (.cst (.int 0)) (.cons (.cst (.int 4914)) (.cons (.cst (.int 0)) .nil))))))) .nil
def D__law_bag : FD := ⟨1, 1, [], false, B__law_bag_0⟩
/-! _law_pull -/
def B__law_pull_0 : RB := .cons (.ret (.bin .mod (.bcl .int (.cons (.bin .add (.bin .fdiv (.ix (.var 0) (.cst (.int 3))) (.cst (.int 83))) (.bin .mul (.bin .mod (.bcl .int (.cons (.ix (.var 0) (.cst (.int 3))) .nil)) (.cst (.int 8111))) (.cst (.int 73)))) .nil)) (.var 1))) .nil
def B__law_pull_1 : RB := .cons (.iset (.var 0) (.cst (.int 3)) (.bin .mod (.bcl .int (.cons (.bin .add (.bin .mul (.bin .mul (.var 2) (.var 2)) (.cst (.int 11))) (.var 3)) .nil)) (.cst (.int 2147483587)))) B__law_pull_0
def B__law_pull_2 : RB := .cons (.set 3 (.bin .add (.bin .add (.bin .mul (.var 2) (.cst (.int 48731))) (.bin .mul (.ix (.var 0) (.cst (.int 4))) (.cst (.int 131071)))) (.cst (.int 77003)))) B__law_pull_1
def B__law_pull_3 : RB := .cons (.set 2 (.ix (.var 0) (.cst (.int 3)))) B__law_pull_2
def B__law_pull_4 : RB := .cons (.ret (.var 5)) .nil
def B__law_pull_5 : RB := .cons (.iset (.var 0) (.cst (.int 2)) (.bin .fdiv (.ix (.var 0) (.cst (.int 2))) (.var 1))) B__law_pull_4
def B__law_pull_6 : RB := .cons (.set 5 (.bin .mod (.bcl .int (.cons (.ix (.var 0) (.cst (.int 2))) .nil)) (.var 1))) B__law_pull_5
def B__law_pull_7 : RB := .cons (.ite (.cmp .gt (.ix (.var 0) (.cst (.int 2))) (.cst (.int 0))) B__law_pull_6 .nil) B__law_pull_3
def B__law_pull_8 : RB := .cons (.iset (.var 0) (.cst (.int 2)) (.bcl .abs (.cons (.var 4) .nil))) .nil
def B__law_pull_9 : RB := .cons (.iset (.var 0) (.cst (.int 3)) (.bin .mod (.bcl .int (.cons (.bin .add (.bin .mul (.ix (.var 0) (.cst (.int 3))) (.cst (.int 40009))) (.var 6)) .nil)) (.cst (.int 2147483587)))) .nil
def B__law_pull_10 : RB := .cons (.set 6 (.bin .add (.bin .mul (.bin .mod (.bcl .int (.cons (.var 4) .nil)) (.cst (.int 998244353))) (.cst (.int 30011))) (.cst (.int 59)))) B__law_pull_9
def B__law_pull_11 : RB := .cons (.ite (.cmp .ge (.bcl .abs (.cons (.var 4) .nil)) (.bin .pow (.cst (.int 10)) (.cst (.int 18)))) B__law_pull_8 B__law_pull_10) .nil
def B__law_pull_12 : RB := .cons (.iset (.var 0) (.cst (.int 1)) (.bin .add (.ix (.var 0) (.cst (.int 1))) (.cst (.int 1)))) B__law_pull_11
def B__law_pull_13 : RB := .cons (.set 4 (.ix (.ix (.var 0) (.cst (.int 0))) (.ix (.var 0) (.cst (.int 1))))) B__law_pull_12
def B__law_pull_14 : RB := .cons (.ite (.and (.cmp .eq (.ix (.var 0) (.cst (.int 2))) (.cst (.int 0))) (.cmp .lt (.ix (.var 0) (.cst (.int 1))) (.bcl .len (.cons (.ix (.var 0) (.cst (.int 0))) .nil)))) B__law_pull_13 .nil) B__law_pull_7
def B__law_pull_15 : RB := .cons (.iset (.var 0) (.cst (.int 4)) (.bin .add (.ix (.var 0) (.cst (.int 4))) (.cst (.int 1)))) B__law_pull_14
def D__law_pull : FD := ⟨2, 7, [], false, B__law_pull_15⟩
/-! _law_of -/
def B__law_of_0 : RB := .cons (.ret (.ix (.var 1) (.call 3 (.cons (.var 0) (.cons (.bcl .len (.cons (.var 1) .nil)) .nil))))) .nil
def D__law_of : FD := ⟨2, 2, [], false, B__law_of_0⟩
/-! _law_same -/
def B__law_same_0 : RB := .cons (.ret (.and (.cmp .eq (.isi (.var 1) true [.str]) (.isi (.var 0) true [.str])) (.cmp .eq (.var 0) (.var 1)))) .nil
def B__law_same_1 : RB := .cons (.ret (.cst (.bl false))) .nil
def B__law_same_2 : RB := .cons (.ite (.cmp .ne (.isi (.var 1) true [.int]) (.isi (.var 0) true [.int])) B__law_same_1 .nil) B__law_same_0
def B__law_same_3 : RB := .cons (.ret (.bcl .all (.cons (.lc false (.call 5 (.cons (.var 2) (.cons (.var 3) .nil))) (.tp (.cons (.nm 2) (.cons (.nm 3) .nil))) (.zip (.var 0) (.var 1)) .none [2, 3]) .nil))) .nil
def B__law_same_4 : RB := .cons (.ret (.cst (.bl false))) .nil
def B__law_same_5 : RB := .cons (.ite (.or (.cmp .ne (.isi (.var 1) true [.tuple]) (.isi (.var 0) true [.tuple])) (.cmp .ne (.bcl .len (.cons (.var 0) .nil)) (.bcl .len (.cons (.var 1) .nil)))) B__law_same_4 .nil) B__law_same_3
def B__law_same_6 : RB := .cons (.ret (.cst (.bl false))) .nil
def B__law_same_7 : RB := .cons (.ite (.cmp .ne (.isi (.var 1) true [.list]) (.isi (.var 0) true [.list])) B__law_same_6 .nil) B__law_same_5
def B__law_same_8 : RB := .cons (.ite (.or (.isi (.var 1) false [.list, .tuple]) (.isi (.var 0) false [.list, .tuple])) B__law_same_7 .nil) B__law_same_2
def B__law_same_9 : RB := .cons (.ret (.and (.isi (.var 1) true [.bool]) (.and (.isi (.var 0) true [.bool]) (.cmp .eq (.var 0) (.var 1))))) .nil
def B__law_same_10 : RB := .cons (.ite (.or (.isi (.var 1) true [.bool]) (.isi (.var 0) true [.bool])) B__law_same_9 .nil) B__law_same_8
def B__law_same_11 : RB := .cons (.ret (.and (.cmp .isn (.var 1) (.cst .non)) (.cmp .isn (.var 0) (.cst .non)))) .nil
def B__law_same_12 : RB := .cons (.ite (.or (.cmp .isn (.var 1) (.cst .non)) (.cmp .isn (.var 0) (.cst .non))) B__law_same_11 .nil) B__law_same_10
def D__law_same : FD := ⟨2, 4, [], false, B__law_same_12⟩
/-! _law_words -/
def B__law_words_0 : RB := .cons (.ret (.lc false (.bin .add (.bin .add (.sl (.var 3) .none (.some (.var 4))) (.ix (.var 2) (.bin .mod (.bcl .int (.cons (.bin .add (.var 5) (.bin .mul (.cst (.int 7)) (.var 6))) .nil)) (.cst (.int 26))))) (.sl (.var 3) (.some (.var 4)) .none)) (.nm 6) (.rng (.var 1)) .none [6])) .nil
def B__law_words_1 : RB := .cons (.par [4, 5] (.cons (.call 3 (.cons (.var 0) (.cons (.bin .add (.bcl .len (.cons (.var 3) .nil)) (.cst (.int 1))) .nil))) (.cons (.call 3 (.cons (.var 0) (.cons (.cst (.int 26)) .nil))) .nil))) B__law_words_0
def B__law_words_2 : RB := .cons (.set 3 (.bmt .join (.cst (.str "")) (.cons (.lc false (.call 4 (.cons (.var 0) (.cons (.var 2) .nil))) (.nm 6) (.rng (.call 3 (.cons (.var 0) (.cons (.cst (.int 6)) .nil)))) .none [6]) .nil))) B__law_words_1
def B__law_words_3 : RB := .cons (.set 2 (.cst (.str "abcdefghijklmnopqrstuvwxyz"))) B__law_words_2
def D__law_words : FD := ⟨2, 7, [], false, B__law_words_3⟩
end Dn
end

/-! Dn, part S: plain evaluation. -/
noncomputable section
namespace Dn
open PySem PySem.Spec PyProof.Rows L2
theorem Mem.get_put {m : Mem} {r : Nat} {o u : MO} (h : m.get r = some u) : (m.put r o).get r = some o := by
  have := (List.getElem?_eq_some_iff.mp (get_some h)).1
  unfold Mem.get
  rw [Dn.get_put this, if_pos rfl]
  rfl
theorem Mem.put_put {m : Mem} {r : Nat} {o u : MO} : (m.put r o).put r u = m.put r u := by
  unfold Mem.put
  rw [List.set_set]
theorem Mem.get_put_ne {m : Mem} {r n : Nat} {o : MO} (h : n ≠ r) : (m.put r o).get n = m.get n := by
  unfold Mem.get Mem.put
  rw [List.getElem?_set_ne (Ne.symm h)]
theorem Mem.len_put {m : Mem} {r : Nat} {o : MO} : (m.put r o).length = m.length := by simp [Mem.put]
theorem callAt_ok {p : Pg} {k f : Nat} {d : FD} (h : p.fd f = some d) {l : List D} {m : Mem} : callAt p (k + 1) f l m = runD (callAt p k) p.gv d l m := by
  show (match p.fd f with | some d => runD (callAt p k) p.gv d l m | none => .no) = _
  rw [h]
/-- a def's run, every argument given -/
theorem runD_ok {cl : Nat → List D → Mem → R D} {gv : Nat → P} {np ns : Nat} {b : RB} {l : List D} {m : Mem} (h : l.length = np) : runD cl gv ⟨np, ns, [], false, b⟩ l m = endS (denB cl gv b (startD ns l) m) := by
  have e : argsD ⟨np, ns, [], false, b⟩ l = some l := by
    unfold argsD
    simp [h]
  unfold runD
  rw [e]
def slot (o : Option (Option D)) (m : Mem) : R D := match o with
  | some (some d) => .ok d m
  | _ => .no
def asI (x : D) (m : Mem) : R (Option Int) := match x with
  | .p (.int i) => .ok (some i) m
  | _ => .no
/-! ### the copied syntax, step by step (a comprehension stays as it is) -/
section
variable {cl : Nat → List D → Mem → R D} {gv : Nat → P} {δ : Sl} {m : Mem} {a b c e : RE} {l : RL} {i n : Nat}
@[simp] theorem v_var : den cl gv (.var i) δ m = slot δ[i]? m := Eq.trans rfl rfl
@[simp] theorem slot_ {d : D} : slot (some (some d)) m = .ok d m := Eq.trans rfl rfl
@[simp] theorem v_cst {x : P} : den cl gv (.cst x) δ m = .ok (.p x) m := Eq.trans rfl rfl
@[simp] theorem v_glo : den cl gv (.glo n) δ m = .ok (.p (gv n)) m := Eq.trans rfl rfl
@[simp] theorem v_tup : den cl gv (.tup l) δ m = (denL cl gv l δ m).bind mkT := Eq.trans rfl rfl
@[simp] theorem v_lst {mu : Bool} : den cl gv (.lst mu l) δ m = (denL cl gv l δ m).bind (mkL mu) := Eq.trans rfl rfl
@[simp] theorem v_bin {o : BOp} : den cl gv (.bin o a b) δ m = (den cl gv a δ m).bind fun x m => (den cl gv b δ m).bind fun y m => binS o x y m := Eq.trans rfl rfl
@[simp] theorem v_cmp {o : COp} : den cl gv (.cmp o a b) δ m = (den cl gv a δ m).bind fun x m => (den cl gv b δ m).bind fun y m => cmpS o x y m := Eq.trans rfl rfl
@[simp] theorem v_cmp2 {o o' : COp} : den cl gv (.cmp2 o o' a b c) δ m = (den cl gv a δ m).bind fun x m => (den cl gv b δ m).bind fun y m => (cmpS o x y m).bind fun k m => (asB k m).bind fun k m => if k then (den cl gv c δ m).bind fun z m => cmpS o' y z m else .ok (.p (.bl false)) m := Eq.trans rfl rfl
@[simp] theorem v_and : den cl gv (.and a b) δ m = (den cl gv a δ m).bind fun x m => (asB x m).bind fun x m => if x then den cl gv b δ m else .ok (.p (.bl false)) m := Eq.trans rfl rfl
@[simp] theorem v_or : den cl gv (.or a b) δ m = (den cl gv a δ m).bind fun x m => (asB x m).bind fun x m => if x then .ok (.p (.bl true)) m else den cl gv b δ m := Eq.trans rfl rfl
@[simp] theorem v_not : den cl gv (.not a) δ m = (den cl gv a δ m).bind fun x m => (asB x m).bind fun x m => .ok (.p (.bl (!x))) m := Eq.trans rfl rfl
@[simp] theorem v_ite : den cl gv (.ite c a b) δ m = (den cl gv c δ m).bind fun x m => (asB x m).bind fun x m => if x then den cl gv a δ m else den cl gv b δ m := Eq.trans rfl rfl
@[simp] theorem v_isi {o : Bool} {l : List Ty} : den cl gv (.isi a o l) δ m = (den cl gv a δ m).bind fun x m => oB (isTys l x m) m := Eq.trans rfl rfl
@[simp] theorem v_ix : den cl gv (.ix a b) δ m = (den cl gv a δ m).bind fun x m => (den cl gv b δ m).bind fun y m => ixS x y m := Eq.trans rfl rfl
@[simp] theorem v_sl {lo hi : RO} : den cl gv (.sl a lo hi) δ m = (den cl gv a δ m).bind fun x m => (denO cl gv lo δ m).bind fun i m => (denO cl gv hi δ m).bind fun j m => slS x i j m := Eq.trans rfl rfl
@[simp] theorem v_call {f : Nat} : den cl gv (.call f l) δ m = (denL cl gv l δ m).bind (cl f) := Eq.trans rfl rfl
@[simp] theorem v_callK {f : Nat} {k : RL} {pm : List Nat} : den cl gv (.callK f l k pm) δ m = (denL cl gv l δ m).bind fun xs m => (denL cl gv k δ m).bind fun zs m => cl f (permL pm xs zs) m := Eq.trans rfl rfl
@[simp] theorem v_bcl {f : BF} : den cl gv (.bcl f l) δ m = (denL cl gv l δ m).bind (bclS f) := Eq.trans rfl rfl
@[simp] theorem v_bmt {f : BM} : den cl gv (.bmt f a l) δ m = (den cl gv a δ m).bind fun x m => if bmPre f x m = true then (denL cl gv l δ m).bind (bmtS f x) else .no := Eq.trans rfl rfl
theorem v_lc {mu : Bool} {t : T} {it : RI} {c : RO} {own : List Nat} : den cl gv (.lc mu e t it c own) δ m = (denI cl gv it δ m).bind fun its m => (lcRun (turn (denC cl gv c) (den cl gv e) t (wipeD δ own)) its its.l m).bind (mkL mu) := Eq.trans rfl rfl
@[simp] theorem v_frz : den cl gv (.frz a) δ m = (den cl gv a δ m).bind frzS := Eq.trans rfl rfl
@[simp] theorem l_nil : denL cl gv .nil δ m = .ok [] m := Eq.trans rfl rfl
@[simp] theorem l_cons : denL cl gv (.cons e l) δ m = (den cl gv e δ m).bind fun x m => (denL cl gv l δ m).bind fun xs m => .ok (x :: xs) m := Eq.trans rfl rfl
@[simp] theorem l_star : denL cl gv (.star e l) δ m = (den cl gv e δ m).bind fun x m => (oR (seqD m x) m).bind fun ys m => (denL cl gv l δ m).bind fun xs m => .ok (ys ++ xs) m := Eq.trans rfl rfl
@[simp] theorem o_none' : denO cl gv .none δ m = .ok none m := Eq.trans rfl rfl
@[simp] theorem o_some' : denO cl gv (.some e) δ m = (den cl gv e δ m).bind asI := Eq.trans rfl rfl
@[simp] theorem asI_ {i : Int} : asI (.p (.int i)) m = .ok (some i) m := Eq.trans rfl rfl
@[simp] theorem c_none' : denC cl gv .none δ m = .ok true m := Eq.trans rfl rfl
@[simp] theorem c_some' : denC cl gv (.some e) δ m = (den cl gv e δ m).bind asB := Eq.trans rfl rfl
@[simp] theorem i_seq' : denI cl gv (.seq e) δ m = (den cl gv e δ m).bind fun x m => oR (itSeq x m) m := Eq.trans rfl rfl
@[simp] theorem i_rng' : denI cl gv (.rng e) δ m = (den cl gv e δ m).bind fun x m => oR (itRng x) m := Eq.trans rfl rfl
@[simp] theorem i_zip' : denI cl gv (.zip a b) δ m = (den cl gv a δ m).bind fun x m => (den cl gv b δ m).bind fun y m => oR (itZip x y) m := Eq.trans rfl rfl
@[simp] theorem i_enum' : denI cl gv (.enum a) δ m = (den cl gv a δ m).bind fun x m => oR (itEnum x) m := Eq.trans rfl rfl
@[simp] theorem toS_ok {α : Type} {x : α} {f : α → Mem → S} : (R.ok x m).toS δ f = f x m := Eq.trans rfl rfl
@[simp] theorem b_nil' : denB cl gv .nil δ m = .ok .nx δ m := Eq.trans rfl rfl
@[simp] theorem b_cons' {s : RS} {b : RB} : denB cl gv (.cons s b) δ m = (match denS cl gv s δ m with | .ok .nx δ m => denB cl gv b δ m | r => r) := Eq.trans rfl rfl
@[simp] theorem s_set' : denS cl gv (.set i e) δ m = (den cl gv e δ m).toS δ fun d m => .ok .nx (δ.set i (some d)) m := Eq.trans rfl rfl
@[simp] theorem s_iset' : denS cl gv (.iset a b e) δ m = (den cl gv e δ m).toS δ fun v m => (den cl gv a δ m).toS δ fun x m => (den cl gv b δ m).toS δ fun y m => (isetS x y v m).toS δ fun _ m => .ok .nx δ m := Eq.trans rfl rfl
@[simp] theorem s_par' {is : List Nat} : denS cl gv (.par is l) δ m = (denL cl gv l δ m).toS δ fun ds m => if ds.length = is.length then .ok .nx ((is.zip ds).foldl (fun δ p => δ.set p.1 (some p.2)) δ) m else .no := Eq.trans rfl rfl
@[simp] theorem s_ex' : denS cl gv (.ex e) δ m = (den cl gv e δ m).toS δ fun _ m => .ok .nx δ m := Eq.trans rfl rfl
@[simp] theorem s_ret' : denS cl gv (.ret e) δ m = (den cl gv e δ m).toS δ fun d m => .ok (.rt d) δ m := Eq.trans rfl rfl
@[simp] theorem s_ite' {a b : RB} : denS cl gv (.ite c a b) δ m = ((den cl gv c δ m).bind asB).toS δ fun k m => if k then denB cl gv a δ m else denB cl gv b δ m := Eq.trans rfl rfl
@[simp] theorem endS_rt {d : D} : endS (.ok (.rt d) δ m) = .ok d m := Eq.trans rfl rfl
@[simp] theorem endS_nx : endS (.ok .nx δ m) = .ok (.p .non) m := Eq.trans rfl rfl
@[simp] theorem oR_some {α : Type} {x : α} : oR (some x) m = .ok x m := Eq.trans rfl rfl
@[simp] theorem oB_some {x : Bool} : oB (some x) m = .ok (.p (.bl x)) m := Eq.trans rfl rfl
@[simp] theorem start_ {n : Nat} {l : List D} : startD n l = l.map some ++ List.replicate (n - l.length) none := Eq.trans rfl rfl
theorem turn_ {rc : Sl → Mem → R Bool} {re : Sl → Mem → R D} {t : T} {x : D} : turn rc re t δ x m = (oR (asgT t x m δ) m).bind fun δ' m => (rc δ' m).bind fun k m => if k then (re δ' m).bind fun y m => .ok (some y) m else .ok none m := Eq.trans rfl rfl
@[simp] theorem asg_nm {x : D} : asgT (.nm i) x m δ = some (δ.set i (some x)) := Eq.trans rfl rfl
end
/-! ### operations on what is known -/
section
variable {m : Mem} {i j : Int} {b b' : Bool} {x y : Str}
theorem shp_int (i : Int) : (P.int i).shp = true := Eq.trans rfl rfl
theorem shp_bl (i : Bool) : (P.bl i).shp = true := Eq.trans rfl rfl
@[simp] theorem o_add : binS .add (.p (.int i)) (.p (.int j)) m = .ok (.p (.int (i + j))) m := Eq.trans rfl rfl
@[simp] theorem o_sub : binS .sub (.p (.int i)) (.p (.int j)) m = .ok (.p (.int (i - j))) m := Eq.trans rfl rfl
theorem o_mulL (h1 : -(2 ^ 64) < i) (h2 : i < 2 ^ 64) : binS .mul (.p (.int i)) (.p (.int j)) m = .ok (.p (.int (i * j))) m := by
  refine if_pos ?_
  unfold mulOk
  rw [Bool.or_eq_true]
  exact .inl (by rw [Bool.and_eq_true]; exact ⟨decide_eq_true h1, decide_eq_true h2⟩)
theorem o_mulR (h1 : -(2 ^ 64) < j) (h2 : j < 2 ^ 64) : binS .mul (.p (.int i)) (.p (.int j)) m = .ok (.p (.int (i * j))) m := by
  refine if_pos ?_
  unfold mulOk
  rw [Bool.or_eq_true]
  exact .inr (by rw [Bool.and_eq_true]; exact ⟨decide_eq_true h1, decide_eq_true h2⟩)
theorem o_mod (h : 0 < j) : binS .mod (.p (.int i)) (.p (.int j)) m = .ok (.p (.int (i % j))) m := if_pos h
theorem o_fdiv (h : 0 < j) (h2 : j < 1073741824) : binS .fdiv (.p (.int i)) (.p (.int j)) m = .ok (.p (.int (i / j))) m := if_pos ⟨h, h2⟩
theorem o_pow (h : 0 ≤ j) (h2 : j ≤ 1000000) (h3 : i.natAbs < 2 ^ 64) : binS .pow (.p (.int i)) (.p (.int j)) m = .ok (.p (.int (i ^ j.toNat))) m := if_pos ⟨h, h2, h3⟩
@[simp] theorem k_lt : cmpS .lt (.p (.int i)) (.p (.int j)) m = .ok (.p (.bl (decide (i < j)))) m := Eq.trans rfl rfl
@[simp] theorem k_gt : cmpS .gt (.p (.int i)) (.p (.int j)) m = .ok (.p (.bl (decide (j < i)))) m := Eq.trans rfl rfl
@[simp] theorem k_le : cmpS .le (.p (.int i)) (.p (.int j)) m = .ok (.p (.bl (decide (i ≤ j)))) m := Eq.trans rfl rfl
@[simp] theorem k_ge : cmpS .ge (.p (.int i)) (.p (.int j)) m = .ok (.p (.bl (decide (j ≤ i)))) m := Eq.trans rfl rfl
@[simp] theorem k_eqI : cmpS .eq (.p (.int i)) (.p (.int j)) m = .ok (.p (.bl (decide (i = j)))) m := by
  show oB (eqP (.int i) (.int j)) m = _
  have : eqP (.int i) (.int j) = some (i == j) := rfl
  rw [this]
  show R.ok (D.p (.bl (i == j))) m = _
  congr 3
@[simp] theorem k_neI : cmpS .ne (.p (.int i)) (.p (.int j)) m = .ok (.p (.bl (!decide (i = j)))) m := by
  show oB ((eqP (.int i) (.int j)).map (!·)) m = _
  have : eqP (.int i) (.int j) = some (i == j) := rfl
  rw [this]
  show R.ok (D.p (.bl (!(i == j)))) m = _
  congr 4
@[simp] theorem k_eqS : cmpS .eq (.p (.str x)) (.p (.str y)) m = .ok (.p (.bl (decide (x = y)))) m := Eq.trans rfl rfl
@[simp] theorem k_eqB : cmpS .eq (.p (.bl b)) (.p (.bl b')) m = .ok (.p (.bl (b == b'))) m := by cases b <;> cases b' <;> rfl
@[simp] theorem k_neB : cmpS .ne (.p (.bl b)) (.p (.bl b')) m = .ok (.p (.bl (!(b == b')))) m := by cases b <;> cases b' <;> rfl
@[simp] theorem k_isN {d : D} : cmpS .isn d (.p .non) m = .ok (.p (.bl (isN d))) m := Eq.trans rfl rfl
@[simp] theorem k_notN {d : D} : cmpS .notn d (.p .non) m = .ok (.p (.bl (!isN d))) m := Eq.trans rfl rfl
@[simp] theorem asB_bl : asB (.p (.bl b)) m = .ok b m := Eq.trans rfl rfl
@[simp] theorem ints_ : bclS .int [.p (.int i)] m = .ok (.p (.int i)) m := Eq.trans rfl rfl
@[simp] theorem abs_ : bclS .abs [.p (.int i)] m = .ok (.p (.int (if i < 0 then -i else i))) m := Eq.trans rfl rfl
@[simp] theorem len_l {l : List P} : bclS .len [.p (.lst l)] m = .ok (.p (.int (l.length : Int))) m := by
  show R.ok (D.p (.int ((l.map D.p).length : Int))) m = _
  rw [List.length_map]
@[simp] theorem len_t {l : List P} : bclS .len [.p (.tup l)] m = .ok (.p (.int (l.length : Int))) m := by
  show R.ok (D.p (.int ((l.map D.p).length : Int))) m = _
  rw [List.length_map]
theorem len_s (h : x.length ≤ sizeLine) : bclS .len [.p (.str x)] m = .ok (.p (.int (x.length : Int))) m := if_pos h
end
theorem ix_l {m : Mem} {l : List P} {k : Nat} {x : P} (e : l[k]? = some x) : ixS (.p (.lst l)) (.p (.int (k : Int))) m = .ok (.p x) m := by
  unfold ixS seqD
  have : (l.map D.p)[k]? = some (.p x) := by rw [List.getElem?_map, e]; rfl
  simp only
  rw [atI_nat this]
theorem ix_bag {m : Mem} {r : Nat} {l : List D} (h : m.get r = some (.lst l)) (k : Nat) {x : D} (e : l[k]? = some x) : ixS (.ref r) (.p (.int (k : Int))) m = .ok x m := by
  unfold ixS seqD
  simp only [h]
  rw [atI_nat e]
theorem iset_bag {m : Mem} {r : Nat} {l : List D} (h : m.get r = some (.lst l)) (k : Nat) (hk : k < l.length) (x : D) : isetS (.ref r) (.p (.int (k : Int))) x m = .ok () (m.put r (.lst (l.set k x))) := by
  unfold isetS
  simp only [h]
  have : ixN l.length (k : Int) = some k := by unfold ixN; simp [hk]
  rw [this]
end Dn
end

/-! Dn, part U: the drawn numbers. -/
noncomputable section
namespace Dn
open PySem PySem.Spec PyProof.Rows L2
/-! ### the law's bag of numbers -/
def bagO (c : List Int) (i q s n : Int) : MO := .lst [.p (.lst (c.map P.int)), .p (.int i), .p (.int q), .p (.int s), .p (.int n)]
def BagO (o : MO) : Prop := ∃ c i q s n, o = bagO c i q s n ∧ 0 ≤ i ∧ 0 ≤ q ∧ 0 ≤ s ∧ s < 2147483587
section
variable {m : Mem} {r : Nat} {c : List Int} {i q s n x : Int}
theorem bg0 (h : m.get r = some (bagO c i q s n)) : ixS (.ref r) (.p (.int 0)) m = .ok (.p (.lst (c.map P.int))) m := ix_bag h 0 rfl
theorem bg1 (h : m.get r = some (bagO c i q s n)) : ixS (.ref r) (.p (.int 1)) m = .ok (.p (.int i)) m := ix_bag h 1 rfl
theorem bg2 (h : m.get r = some (bagO c i q s n)) : ixS (.ref r) (.p (.int 2)) m = .ok (.p (.int q)) m := ix_bag h 2 rfl
theorem bg3 (h : m.get r = some (bagO c i q s n)) : ixS (.ref r) (.p (.int 3)) m = .ok (.p (.int s)) m := ix_bag h 3 rfl
theorem bg4 (h : m.get r = some (bagO c i q s n)) : ixS (.ref r) (.p (.int 4)) m = .ok (.p (.int n)) m := ix_bag h 4 rfl
theorem bs1 (h : m.get r = some (bagO c i q s n)) : isetS (.ref r) (.p (.int 1)) (.p (.int x)) m = .ok () (m.put r (bagO c x q s n)) := iset_bag h 1 (by simp) _
theorem bs2 (h : m.get r = some (bagO c i q s n)) : isetS (.ref r) (.p (.int 2)) (.p (.int x)) m = .ok () (m.put r (bagO c i x s n)) := iset_bag h 2 (by simp) _
theorem bs3 (h : m.get r = some (bagO c i q s n)) : isetS (.ref r) (.p (.int 3)) (.p (.int x)) m = .ok () (m.put r (bagO c i q x n)) := iset_bag h 3 (by simp) _
theorem bs4 (h : m.get r = some (bagO c i q s n)) : isetS (.ref r) (.p (.int 4)) (.p (.int x)) m = .ok () (m.put r (bagO c i q s x)) := iset_bag h 4 (by simp) _
end
/-- behind the look at the script -/
theorem pull_t {cl : Nat → List D → Mem → R D} {gv : Nat → P} {m : Mem} {r : Nat} {c : List Int} {i q s n many : Int} {x2 x3 x4 x5 x6 : Option D} (h : m.get r = some (bagO c i q s n)) (hi : 0 ≤ i) (hq : 0 ≤ q) (hs : 0 ≤ s) (hs2 : s < 2147483587) (h1 : 0 < many) (h2 : many < 1073741824) :
    ∃ v o, endS (denB cl gv B__law_pull_7 [some (.ref r), some (.p (.int many)), x2, x3, x4, x5, x6] m) = .ok (.p (.int v)) (m.put r o) ∧ BagO o ∧ 0 ≤ v ∧ v < many := by
  by_cases c1 : 0 < q
  · simp [B__law_pull_7, B__law_pull_6, B__law_pull_5, B__law_pull_4, denB, denS, den, denL, R.toS, bg2 h, c1, o_mod h1, o_fdiv h1 h2, bs2 h, endS]
    exact ⟨_, _, ⟨rfl, rfl⟩, ⟨c, i, q / many, s, n, rfl, hi, Int.ediv_nonneg hq (Int.le_of_lt h1), hs, hs2⟩, Int.emod_nonneg _ (Int.ne_of_gt h1), Int.emod_lt_of_pos _ h1⟩
  · have g3 := fun x => bg3 (r := r) (c := c) (i := i) (q := q) (n := n) (s := x) (Mem.get_put h)
    have mm : binS .mul (.p (.int s)) (.p (.int s)) m = .ok (.p (.int (s * s))) m := o_mulL (by omega) (by omega)
    simp [B__law_pull_7, B__law_pull_3, B__law_pull_2, B__law_pull_1, B__law_pull_0, denB, denS, den, denL, R.toS, bg2 h, c1, bg3 h, bg4 h, o_mulR, o_mod, o_fdiv, bs3 h, g3, mm, endS, h1]
    exact ⟨_, _, ⟨rfl, rfl⟩, ⟨c, i, q, _, n, rfl, hi, hq, Int.emod_nonneg _ (by omega), Int.emod_lt_of_pos _ (by omega)⟩, Int.emod_nonneg _ (Int.ne_of_gt h1), Int.emod_lt_of_pos _ h1⟩
theorem pull_1 {cl : Nat → List D → Mem → R D} {gv : Nat → P} {m : Mem} {r : Nat} {o : MO} {many : Int} (h : m.get r = some o) (hb : BagO o) (h1 : 0 < many) (h2 : many < 1073741824) :
    ∃ v o, runD cl gv D__law_pull [.ref r, .p (.int many)] m = .ok (.p (.int v)) (m.put r o) ∧ BagO o ∧ 0 ≤ v ∧ v < many := by
  obtain ⟨c, i, q, s, n, rfl, hi, hq, hs, hs2⟩ := hb
  unfold D__law_pull
  rw [runD_ok (np := 2) rfl]
  simp only [startD, List.map_cons, List.map_nil, List.length_cons, List.length_nil, List.replicate, List.cons_append, List.nil_append]
  have hp : ∀ x, (m.put r x).get r = some x := fun x => Mem.get_put h
  have fin : ∀ {c : List Int} {i q s n : Int} {x2 x3 x4 x5 x6 : Option D}, 0 ≤ i → 0 ≤ q → 0 ≤ s → s < 2147483587 → ∃ v o, endS (denB cl gv B__law_pull_7 [some (.ref r), some (.p (.int many)), x2, x3, x4, x5, x6] (m.put r (bagO c i q s n))) = .ok (.p (.int v)) (m.put r o) ∧ BagO o ∧ 0 ≤ v ∧ v < many := fun {c i q s n x2 x3 x4 x5 x6} ha hb hc hd => by
    obtain ⟨v, o, e, z⟩ := pull_t (cl := cl) (gv := gv) (x2 := x2) (x3 := x3) (x4 := x4) (x5 := x5) (x6 := x6) (hp (bagO c i q s n)) ha hb hc hd h1 h2
    rw [Mem.put_put] at e
    exact ⟨v, o, e, z⟩
  by_cases c1 : q = 0 ∧ i < c.length
  · obtain ⟨rfl, c2⟩ := c1
    obtain ⟨k, rfl⟩ : ∃ k : Nat, i = k := ⟨i.toNat, by omega⟩
    have hk : k < c.length := by omega
    have ex : ∀ {m : Mem}, ixS (.p (.lst (c.map P.int))) (.p (.int (k : Int))) m = .ok (.p (.int c[k])) m := ix_l (by rw [List.getElem?_map, List.getElem?_eq_getElem hk]; rfl)
    generalize c[k] = z at ex
    have haz : 0 ≤ (if z < 0 then -z else z) := by split <;> omega
    by_cases c3 : 1000000000000000000 ≤ (if z < 0 then -z else z)
    · simp [B__law_pull_15, B__law_pull_14, B__law_pull_13, B__law_pull_12, B__law_pull_11, B__law_pull_8, denB, denS, den, denL, R.toS, bg4 h, bs4 h, bg2 (hp _), bg1 (hp _), bg0 (hp _), c2, ex, bs1 (hp _), Mem.put_put, o_pow, c3, bs2 (hp _), hk]
      exact fin (Int.add_nonneg hi (by decide)) haz hs hs2
    · simp [B__law_pull_15, B__law_pull_14, B__law_pull_13, B__law_pull_12, B__law_pull_11, B__law_pull_10, B__law_pull_9, denB, denS, den, denL, R.toS, bg4 h, bs4 h, bg2 (hp _), bg1 (hp _), bg0 (hp _), c2, ex, bs1 (hp _), Mem.put_put, o_pow, c3, hk, o_mod, o_mulR, bg3 (hp _), bs3 (hp _)]
      exact fin (Int.add_nonneg hi (by decide)) (Int.le_refl 0) (Int.emod_nonneg _ (by decide)) (Int.emod_lt_of_pos _ (by decide))
  · by_cases c4 : q = 0
    · subst c4
      have c5 : ¬ i < c.length := fun z => c1 ⟨rfl, z⟩
      simp [B__law_pull_15, B__law_pull_14, denB, denS, den, denL, R.toS, bg4 h, bs4 h, bg2 (hp _), bg1 (hp _), bg0 (hp _), c5]
      exact fin hi (Int.le_refl 0) hs hs2
    · simp [B__law_pull_15, B__law_pull_14, denB, denS, den, denL, R.toS, bg4 h, bs4 h, bg2 (hp _), bg1 (hp _), bg0 (hp _), c4]
      exact fin hi hq hs hs2
end Dn
end

/-! Dn, part V: texts as lists of signs; comprehensions by their items. -/
noncomputable section
namespace Dn
open PySem PySem.Spec PyProof.Rows L2
/-! ### texts -/
def mk (l : List Nat) : Str := ⟨l.toArray⟩
theorem mk_of (s : Str) : s = mk s.cps.toList := by
  obtain ⟨a⟩ := s
  rfl
@[simp] theorem mk_list (l : List Nat) : (mk l).cps.toList = l := rfl
@[simp] theorem mk_len (l : List Nat) : (mk l).length = l.length := by simp [mk, Str.length]
theorem mk_app (l r : List Nat) : mk l ++ mk r = mk (l ++ r) := by
  show Str.append (mk l) (mk r) = _
  unfold Str.append mk
  simp
theorem mk_inj {l r : List Nat} : mk l = mk r ↔ l = r := ⟨fun h => by have := congrArg (fun s : Str => s.cps.toList) h; simpa using this, fun h => by rw [h]⟩
theorem mk_cut (l : List Nat) (lo hi : Option Int) : cutS (mk l) lo hi = mk ((l.drop (HT.sIx l.length 0 lo)).take (HT.sIx l.length l.length hi - HT.sIx l.length 0 lo)) := by
  unfold cutS
  rw [mk_len]
  rfl
theorem cut_to (l : List Nat) (k : Nat) : cutS (mk l) none (some (k : Int)) = mk (l.take k) := by
  rw [mk_cut, HT.sIx_none, HT.sIx_nat, List.drop_zero, Nat.sub_zero, Nat.min_comm]
  congr 1
  by_cases h : k ≤ l.length
  · rw [Nat.min_eq_right h]
  · rw [Nat.min_eq_left (by omega), List.take_of_length_le (Nat.le_refl _), List.take_of_length_le (by omega)]
theorem cut_from (l : List Nat) (k : Nat) : cutS (mk l) (some (k : Int)) none = mk (l.drop k) := by
  rw [mk_cut, HT.sIx_none, HT.sIx_nat]
  congr 1
  by_cases h : k ≤ l.length
  · rw [Nat.min_eq_left h, List.take_of_length_le (by simp)]
  · rw [Nat.min_eq_right (by omega), List.drop_of_length_le (Nat.le_refl _), List.drop_of_length_le (by omega), List.take_nil]
section
variable {m : Mem} {l r : List Nat}
theorem o_cat (h : l.length + r.length ≤ sizeLine) : binS .add (.p (.str (mk l))) (.p (.str (mk r))) m = .ok (.p (.str (mk (l ++ r)))) m := by
  have : binS .add (.p (.str (mk l))) (.p (.str (mk r))) m = if (mk l).length + (mk r).length ≤ sizeLine then .ok (.p (.str (mk l ++ mk r))) m else .no := rfl
  rw [this, mk_len, mk_len, if_pos h, mk_app]
theorem s_to (h : l.length ≤ sizeLine) (k : Nat) : slS (.p (.str (mk l))) none (some (k : Int)) m = .ok (.p (.str (mk (l.take k)))) m := by
  have : slS (.p (.str (mk l))) none (some (k : Int)) m = if (mk l).length ≤ sizeLine then .ok (.p (.str (cutS (mk l) none (some (k : Int))))) m else .no := rfl
  rw [this, mk_len, if_pos h, cut_to]
theorem s_from (h : l.length ≤ sizeLine) (k : Nat) : slS (.p (.str (mk l))) (some (k : Int)) none m = .ok (.p (.str (mk (l.drop k)))) m := by
  have : slS (.p (.str (mk l))) (some (k : Int)) none m = if (mk l).length ≤ sizeLine then .ok (.p (.str (cutS (mk l) (some (k : Int)) none))) m else .no := rfl
  rw [this, mk_len, if_pos h, cut_from]
theorem ix_s (h : l.length ≤ sizeLine) {k c : Nat} (e : l[k]? = some c) : ixS (.p (.str (mk l))) (.p (.int (k : Int))) m = .ok (.p (.str (mk [c]))) m := by
  have : ixS (.p (.str (mk l))) (.p (.int (k : Int))) m = if (mk l).length ≤ sizeLine then (match atI (mk l).cps.toList (k : Int) with | some c => .ok (.p (.str ⟨#[c]⟩)) m | none => .no) else .no := rfl
  rw [this, mk_len, if_pos h, mk_list, atI_nat e]
  rfl
theorem len_mk (h : l.length ≤ sizeLine) : bclS .len [.p (.str (mk l))] m = .ok (.p (.int (l.length : Int))) m := by rw [len_s (by rw [mk_len]; exact h), mk_len]
theorem joinL_nil : ∀ ps : List (List Nat), TL.joinL [] ps = ps.flatten
  | [] => rfl
  | [p] => by simp [TL.joinL]
  | p :: q :: r => by
    show p ++ ([] ++ TL.joinL [] (q :: r)) = _
    rw [joinL_nil (q :: r)]
    simp
theorem join_mk (ls : List (List Nat)) : Txt.join (mk []) (ls.map mk) = mk ls.flatten := by
  rw [TL.join_eq, mk_of (Str.join (mk []) (ls.map mk))]
  congr 1
  have := TL.tl_join (mk []) (ls.map mk)
  refine this.trans ?_
  rw [List.map_map]
  have e : (TL.tl ∘ mk) = id := by funext l; exact mk_list l
  rw [e, List.map_id]
  exact joinL_nil ls
theorem strsP_map (l : List Str) : strsP (l.map P.str) = some l := by
  induction l with
  | nil => rfl
  | cons x l ih => show (strsP (l.map P.str)).map (x :: ·) = _; rw [ih]; rfl
theorem blsP_map (l : List Bool) : blsP (l.map P.bl) = some l := by
  induction l with
  | nil => rfl
  | cons x l ih => show (blsP (l.map P.bl)).map (x :: ·) = _; rw [ih]; rfl
theorem intsP_map (l : List Int) : intsP (l.map P.int) = some l := by
  induction l with
  | nil => rfl
  | cons x l ih => show (intsP (l.map P.int)).map (x :: ·) = _; rw [ih]; rfl
theorem sum_len (ls : List (List Nat)) : ((ls.map mk).map Str.length).sum = ls.flatten.length := by
  induction ls with
  | nil => rfl
  | cons p ls ih => simp only [List.map_cons, List.sum_cons, mk_len, ih, List.flatten_cons, List.length_append]
theorem j_join {ls : List (List Nat)} (h : ls.flatten.length ≤ 16777216) : bmtS .join (.p (.str (mk []))) [.p (.lst ((ls.map mk).map P.str))] m = .ok (.p (.str (mk ls.flatten))) m := by
  unfold bmtS joinS seqP seqD
  simp only [allP_map, Option.bind_some, strsP_map, sum_len, mk_len, List.length_nil, Nat.mul_zero, Nat.add_zero, if_pos h, join_mk]
@[simp] theorem all_ (l : List Bool) : bclS .all [.p (.lst (l.map P.bl))] m = .ok (.p (.bl (l.all id))) m := by
  unfold bclS onL
  simp only [rdP, blsP_map]
end
/-! ### comprehensions -/
theorem lc_pure {f : D → Mem → R (Option D)} {t : Its} (ht : t.n = none) {g : D → D} {m : Mem} : ∀ {l : List D}, (∀ x ∈ l, f x m = .ok (some (g x)) m) → lcRun f t l m = .ok (l.map g) m
  | [], _ => by
    unfold lcRun
    rw [if_pos (by unfold Its.held; rw [ht]; trivial)]
    rfl
  | x :: l, h => by
    unfold lcRun
    rw [if_pos (by unfold Its.held; rw [ht]; trivial), h x List.mem_cons_self]
    show (lcRun f t l m).bind _ = _
    rw [lc_pure ht fun y hy => h y (List.mem_cons_of_mem _ hy)]
    rfl
theorem lc_map {α : Type} {f : D → Mem → R (Option D)} {t : Its} (ht : t.n = none) {h g : α → D} {m : Mem} : ∀ {l : List α}, (∀ x ∈ l, f (h x) m = .ok (some (g x)) m) → lcRun f t (l.map h) m = .ok (l.map g) m
  | [], _ => by
    rw [List.map_nil]
    unfold lcRun
    rw [if_pos (by unfold Its.held; rw [ht]; trivial)]
    rfl
  | x :: l, hh => by
    rw [List.map_cons]
    unfold lcRun
    rw [if_pos (by unfold Its.held; rw [ht]; trivial), hh x List.mem_cons_self]
    show (lcRun f t (l.map h) m).bind _ = _
    rw [lc_map ht fun y hy => hh y (List.mem_cons_of_mem _ hy)]
    rfl
theorem lc_filt {f : D → Mem → R (Option D)} {t : Its} (ht : t.n = none) {g : D → Option D} {m : Mem} : ∀ {l : List D}, (∀ x ∈ l, f x m = .ok (g x) m) → lcRun f t l m = .ok (l.filterMap g) m
  | [], _ => by
    unfold lcRun
    rw [if_pos (by unfold Its.held; rw [ht]; trivial)]
    rfl
  | x :: l, h => by
    unfold lcRun
    rw [if_pos (by unfold Its.held; rw [ht]; trivial), h x List.mem_cons_self]
    show (lcRun f t l m).bind _ = _
    rw [lc_filt ht fun y hy => h y (List.mem_cons_of_mem _ hy), List.filterMap_cons]
    cases g x <;> rfl
/-- items that come one by one, the store going on -/
inductive Each (Q : D → D → Prop) : List D → List D → Prop
  | nil : Each Q [] []
  | cons {x y : D} {l r : List D} : Q x y → Each Q l r → Each Q (x :: l) (y :: r)
theorem Each.length {Q : D → D → Prop} : ∀ {l r : List D}, Each Q l r → r.length = l.length
  | _, _, .nil => rfl
  | _, _, .cons _ t => congrArg Nat.succ t.length
theorem lc_each {f : D → Mem → R (Option D)} {t : Its} (ht : t.n = none) {I : Mem → Prop} {Q : D → D → Prop} : ∀ {l : List D}, (∀ x ∈ l, ∀ m, I m → ∃ y m', f x m = .ok (some y) m' ∧ Q x y ∧ I m') → ∀ m, I m → ∃ ys m', lcRun f t l m = .ok ys m' ∧ Each Q l ys ∧ I m'
  | [], _, m, h => ⟨[], m, by unfold lcRun; rw [if_pos (by unfold Its.held; rw [ht]; trivial)], .nil, h⟩
  | x :: l, h, m, hm => by
    obtain ⟨y, m1, e1, q1, i1⟩ := h x List.mem_cons_self m hm
    obtain ⟨ys, m2, e2, q2, i2⟩ := lc_each ht (fun y hy => h y (List.mem_cons_of_mem _ hy)) m1 i1
    refine ⟨y :: ys, m2, ?_, .cons q1 q2, i2⟩
    unfold lcRun
    rw [if_pos (by unfold Its.held; rw [ht]; trivial), e1]
    show (lcRun f t l m1).bind _ = _
    rw [e2]
    rfl
/-- pure data all -/
theorem mkL_p {l : List P} {m : Mem} (h : l.length ≤ sizeLine) : mkL false (l.map D.p) m = .ok (.p (.lst l)) m := by
  unfold mkL
  rw [if_pos (by rw [List.length_map]; exact h), allP_map]
theorem mkT_p {l : List P} {m : Mem} (h : l.length ≤ sizeLine) : mkT (l.map D.p) m = .ok (.p (.tup l)) m := by
  unfold mkT
  rw [if_pos (by rw [List.length_map]; exact h), allP_map]
/-! ### the drawn -/
abbrev Cl := Nat → List D → Mem → R D
def PullOk (cl : Cl) : Prop := ∀ (m : Mem) (r : Nat) (o : MO) (many : Int), m.get r = some o → BagO o → 0 < many → many < 1073741824 → ∃ v o', cl 3 [.ref r, .p (.int many)] m = .ok (.p (.int v)) (m.put r o') ∧ BagO o' ∧ 0 ≤ v ∧ v < many
theorem pull_ok {p : Pg} {k : Nat} (hf : p.fd 3 = some D__law_pull) : PullOk (callAt p (k + 1)) := fun m r o many h hb h1 h2 => by
  rw [callAt_ok hf]
  exact pull_1 h hb h1 h2
theorem PullOk.nat {cl : Cl} (P : PullOk cl) {m : Mem} {r : Nat} {o : MO} (h : m.get r = some o) (hb : BagO o) (n : Nat) (h1 : 0 < n) (h2 : n < 1073741824) : ∃ v o', cl 3 [.ref r, .p (.int (n : Int))] m = .ok (.p (.int ((v : Nat) : Int))) (m.put r o') ∧ BagO o' ∧ v < n := by
  obtain ⟨v, o', e, b, l, u⟩ := P m r o n h hb (by omega) (by omega)
  obtain ⟨j, rfl⟩ : ∃ j : Nat, v = j := ⟨v.toNat, by omega⟩
  exact ⟨j, o', e, b, by omega⟩
def BagOk (cl : Cl) : Prop := ∀ (m : Mem) (ns : List Int), ns.length ≤ 63 → ∃ o, cl 2 [.p (.scr ns)] m = .ok (.ref m.length) (m.new o) ∧ BagO o
theorem bag_1 {cl : Cl} {gv : Nat → P} {m : Mem} (ns : List Int) (hl : ns.length ≤ 63) : ∃ o, runD cl gv D__law_bag [.p (.scr ns)] m = .ok (.ref m.length) (m.new o) ∧ BagO o := by
  unfold D__law_bag
  rw [runD_ok (np := 1) rfl]
  have hz : ∀ c : List Int, c.length ≤ 63 → c.length ≤ sizeLine := fun c h => Nat.le_trans h (by rw [PySem.sizeLine_eq]; decide)
  have hc : (cutD ns none (some 63)).length ≤ 63 := by
    unfold cutD
    rw [List.length_take]
    have : HT.sIx ns.length ns.length (some 63) ≤ ns.length := HT.sIx_le _ _ (Nat.le_refl _) _
    omega
  have e1 : slS (.p (.scr ns)) none (some 63) m = .ok (.p (.lst ((cutD ns none (some 63)).map P.int))) m := rfl
  have e2 : bclS .list [.p (.lst ((cutD ns none (some 63)).map P.int))] m = .ok (.p (.lst ((cutD ns none (some 63)).map P.int))) m := by
    show mkL false _ m = _
    exact mkL_p (by rw [List.length_map]; exact hz _ hc)
  refine ⟨bagO (cutD ns none (some 63)) 0 0 4914 0, ?_, ⟨_, _, _, _, _, rfl, by decide, by decide, by decide, by decide⟩⟩
  simp [B__law_bag_0, e1, e2]
  unfold mkL
  rw [if_pos (by rw [PySem.sizeLine_eq]; simp)]
  rfl
theorem bag_ok {p : Pg} {k : Nat} (hf : p.fd 2 = some D__law_bag) : BagOk (callAt p (k + 1)) := fun m ns hl => by
  rw [callAt_ok hf]
  exact bag_1 ns hl
/-- one of some: a list, a text -/
def OfL (cl : Cl) : Prop := ∀ (m : Mem) (r : Nat) (o : MO) (l : List P), m.get r = some o → BagO o → l ≠ [] → l.length < 1073741824 → ∃ x o', cl 4 [.ref r, .p (.lst l)] m = .ok (.p x) (m.put r o') ∧ BagO o' ∧ x ∈ l
def OfS (cl : Cl) : Prop := ∀ (m : Mem) (r : Nat) (o : MO) (l : List Nat), m.get r = some o → BagO o → l ≠ [] → l.length ≤ sizeLine → ∃ c o', cl 4 [.ref r, .p (.str (mk l))] m = .ok (.p (.str (mk [c]))) (m.put r o') ∧ BagO o' ∧ c ∈ l
section
variable {cl : Cl} {gv : Nat → P} {r : Nat} {m : Mem} {o : MO}
theorem of_l1 (P1 : PullOk cl) (h : m.get r = some o) (hb : BagO o) {l : List P} (h1 : l ≠ []) (h2 : l.length < 1073741824) :
    ∃ x o', runD cl gv D__law_of [.ref r, .p (.lst l)] m = .ok (.p x) (m.put r o') ∧ BagO o' ∧ x ∈ l := by
  obtain ⟨j, o', e, b', hj⟩ := P1.nat h hb l.length (List.length_pos_iff.mpr h1) h2
  refine ⟨l[j], o', ?_, b', List.getElem_mem hj⟩
  unfold D__law_of
  rw [runD_ok (np := 2) rfl]
  simp [B__law_of_0, e, ix_l (List.getElem?_eq_getElem hj)]
theorem of_s1 (P1 : PullOk cl) (h : m.get r = some o) (hb : BagO o) {l : List Nat} (h1 : l ≠ []) (h2 : l.length ≤ sizeLine) :
    ∃ c o', runD cl gv D__law_of [.ref r, .p (.str (mk l))] m = .ok (.p (.str (mk [c]))) (m.put r o') ∧ BagO o' ∧ c ∈ l := by
  have hz : sizeLine < 1073741824 := by rw [PySem.sizeLine_eq]; decide
  obtain ⟨j, o', e, b', hj⟩ := P1.nat h hb l.length (List.length_pos_iff.mpr h1) (by omega)
  refine ⟨l[j], o', ?_, b', List.getElem_mem hj⟩
  unfold D__law_of
  rw [runD_ok (np := 2) rfl]
  simp [B__law_of_0, len_mk h2, e, ix_s h2 (List.getElem?_eq_getElem hj)]
end
theorem ofl_ok {p : Pg} {k : Nat} (hp : p.fd 3 = some D__law_pull) (hf : p.fd 4 = some D__law_of) : OfL (callAt p (k + 2)) := fun m r o l h hb h1 h2 => by
  rw [callAt_ok hf]
  exact of_l1 (pull_ok hp) h hb h1 h2
theorem ofs_ok {p : Pg} {k : Nat} (hp : p.fd 3 = some D__law_pull) (hf : p.fd 4 = some D__law_of) : OfS (callAt p (k + 2)) := fun m r o l h hb h1 h2 => by
  rw [callAt_ok hf]
  exact of_s1 (pull_ok hp) h hb h1 h2
end Dn
end

/-! Dn, part W: drawn words; kinds; equal data. -/
noncomputable section
namespace Dn
open PySem PySem.Spec PyProof.Rows L2
def alpha : List Nat := (List.range 26).map (97 + ·)
theorem alpha_str : Str.ofString "abcdefghijklmnopqrstuvwxyz" = mk alpha := by decide +kernel
theorem empty_str : Str.ofString "" = mk [] := by decide +kernel
theorem alpha_mem {c : Nat} : c ∈ alpha ↔ 97 ≤ c ∧ c ≤ 122 := by
  unfold alpha
  rw [List.mem_map]
  constructor
  · rintro ⟨i, hi, rfl⟩
    have := List.mem_range.mp hi
    omega
  · rintro ⟨h1, h2⟩
    exact ⟨c - 97, List.mem_range.mpr (by omega), by omega⟩
theorem alpha_len : alpha.length = 26 := by decide
theorem alpha_get {i : Nat} (h : i < 26) : alpha[i]? = some (97 + i) := by
  unfold alpha
  rw [List.getElem?_map, List.getElem?_range h]
  rfl
/-- a name -/
def IsNm (l : List Nat) : Prop := 1 ≤ l.length ∧ l.length ≤ 6 ∧ ∀ c ∈ l, 97 ≤ c ∧ c ≤ 122
theorem line_le {n : Nat} (h : n ≤ 16777216) : n ≤ sizeLine := by rw [PySem.sizeLine_eq]; exact h
theorem rng_ {n : Nat} (h : n ≤ 1048576) : itRng (.p (.int (n : Int))) = some ⟨(List.range n).map fun (k : Nat) => .p (.int (k : Int)), none⟩ := by
  have : itRng (.p (.int (n : Int))) = if -(2 ^ 62) ≤ (n : Int) ∧ (n : Int) < 2 ^ 62 then some ⟨(List.range (n : Int).toNat).map fun (k : Nat) => .p (.int (k : Int)), none⟩ else none := rfl
  rw [this, if_pos (by omega)]
  rfl
/-- texts of one sign each -/
def sgns (cs : List Nat) : List P := cs.map fun c => .str (mk [c])
theorem sgns_len (cs : List Nat) : (sgns cs).length = cs.length := by simp [sgns]
theorem each_sgn {S : List Nat} : ∀ {l ys : List D}, Each (fun _ y => ∃ c ∈ S, y = .p (.str (mk [c]))) l ys → ∃ cs : List Nat, ys = (sgns cs).map D.p ∧ cs.length = l.length ∧ ∀ c ∈ cs, c ∈ S
  | _, _, .nil => ⟨[], rfl, rfl, fun _ h => by cases h⟩
  | _, _, .cons ⟨c, hc, e⟩ t => by
    obtain ⟨cs, e1, e2, e3⟩ := each_sgn t
    refine ⟨c :: cs, by rw [e, e1]; rfl, congrArg Nat.succ e2, fun z hz => ?_⟩
    rcases List.mem_cons.mp hz with h | h
    · rw [h]; exact hc
    · exact e3 z h
theorem flat_sgn (cs : List Nat) : (cs.map fun c => [c]).flatten = cs := by
  induction cs with
  | nil => rfl
  | cons c l ih => rw [List.map_cons, List.flatten_cons, ih]; rfl
theorem join_sgns {cs : List Nat} {m : Mem} (h : cs.length ≤ 16777216) : bmtS .join (.p (.str (mk []))) [.p (.lst (sgns cs))] m = .ok (.p (.str (mk cs))) m := by
  have e : sgns cs = ((cs.map fun c => [c]).map mk).map P.str := by simp [sgns, Function.comp_def]
  rw [e, j_join (by rw [flat_sgn]; omega), flat_sgn]
/-- the letter put in for the k-th word -/
def wordAt (stem : List Nat) (a f k : Nat) : List Nat := stem.take a ++ ([97 + (f + 7 * k) % 26] ++ stem.drop a)
def wordP (stem : List Nat) (a f k : Nat) : P := .str (mk (wordAt stem a f k))
section
variable {cl : Cl} {gv : Nat → P} {r : Nat} {m : Mem} {o : MO}
theorem words_1 (P1 : PullOk cl) (O1 : OfS cl) (h : m.get r = some o) (hb : BagO o) (n : Nat) (hn : n ≤ 1000000) :
    ∃ (stem : List Nat) (a f : Nat) (o' : MO), runD cl gv D__law_words [.ref r, .p (.int n)] m = .ok (.p (.lst ((List.range n).map (wordP stem a f)))) (m.put r o') ∧ BagO o' ∧ stem.length ≤ 5 ∧ (∀ c ∈ stem, 97 ≤ c ∧ c ≤ 122) ∧ a ≤ stem.length ∧ f < 26 := by
  unfold D__law_words
  rw [runD_ok (np := 2) rfl]
  obtain ⟨j1, o1, e1, b1, u1⟩ := P1.nat h hb 6 (by decide) (by decide)
  have alp := alpha_str
  have emp := empty_str
  -- the stem
  have hl := lc_each (f := turn (denC cl gv .none) (den cl gv (.call 4 (.cons (.var 0) (.cons (.var 2) .nil)))) (.nm 6) (wipeD [some (.ref r), some (.p (.int n)), some (.p (.str (mk alpha))), none, none, none, none] [6])) (t := ⟨(List.range j1).map fun (k : Nat) => .p (.int (k : Int)), none⟩) rfl
    (I := fun m' => ∃ o', m' = m.put r o' ∧ BagO o') (Q := fun _ y => ∃ c ∈ alpha, y = .p (.str (mk [c]))) (l := (List.range j1).map fun (k : Nat) => .p (.int (k : Int)))
    (fun x _ m' ⟨o2, em, b2⟩ => by
      subst em
      obtain ⟨c, o3, e3, b3, hc⟩ := O1 (m.put r o2) r o2 alpha (Mem.get_put h) b2 (by decide) (line_le (by rw [alpha_len]; omega))
      refine ⟨.p (.str (mk [c])), m.put r o3, ?_, ⟨c, hc, rfl⟩, o3, rfl, b3⟩
      rw [Mem.put_put] at e3
      simp [turn_, wipeD, e3]) (m.put r o1) ⟨o1, rfl, b1⟩
  obtain ⟨ys, m2, e2, q2, o2, rfl, b2⟩ := hl
  obtain ⟨cs, rfl, cl', hcs⟩ := each_sgn q2
  rw [List.length_map, List.length_range] at cl'
  have hz : cs.length ≤ 5 := by omega
  obtain ⟨a, o3, e3, b3, u3⟩ := P1.nat (m := m.put r o2) (Mem.get_put h) b2 (cs.length + 1) (by omega) (by omega)
  rw [Mem.put_put] at e3
  obtain ⟨f, o4, e4, b4, u4⟩ := P1.nat (m := m.put r o3) (Mem.get_put h) b3 26 (by decide) (by decide)
  rw [Mem.put_put] at e4
  refine ⟨cs, a, f, o4, ?_, b4, hz, fun c hc => alpha_mem.mp (hcs c hc), by omega, u4⟩
  have s1 : den cl gv (.lc false (.call 4 (.cons (.var 0) (.cons (.var 2) .nil))) (.nm 6) (.rng (.call 3 (.cons (.var 0) (.cons (.cst (.int 6)) .nil)))) .none [6]) [some (.ref r), some (.p (.int n)), some (.p (.str (mk alpha))), none, none, none, none] m = .ok (.p (.lst (sgns cs))) (m.put r o2) := by
    rw [v_lc]
    have e1' : cl 3 [.ref r, .p (.int 6)] m = .ok (.p (.int (j1 : Int))) (m.put r o1) := e1
    simp [e1', rng_ (show j1 ≤ 1048576 by omega)]
    rw [e2]
    exact mkL_p (line_le (by rw [sgns_len]; omega))
  simp [B__law_words_3, B__law_words_2, alp, emp, s1, bmPre, bmL, join_sgns (show cs.length ≤ 16777216 by omega)]
  have e3' : cl 3 [.ref r, .p (.int ((cs.length : Int) + 1))] (m.put r o2) = .ok (.p (.int (a : Int))) (m.put r o3) := e3
  have e4' : cl 3 [.ref r, .p (.int 26)] (m.put r o3) = .ok (.p (.int (f : Int))) (m.put r o4) := e4
  simp [B__law_words_1, len_mk (line_le (show cs.length ≤ 16777216 by omega)), e3', e4']
  rw [B__law_words_0]
  simp [v_lc, rng_ (show n ≤ 1048576 by omega)]
  rw [lc_map (g := fun k => .p (wordP cs a f k)) rfl fun j hj => ?_]
  · have e : (List.range n).map (fun k => D.p (wordP cs a f k)) = ((List.range n).map (wordP cs a f)).map D.p := by simp [Function.comp_def]
    simp only [R.bind_ok, e]
    rw [mkL_p (line_le (by simp; omega))]
    simp
  · have ei : ixS (.p (.str (mk alpha))) (.p (.int (((f : Int) + 7 * (j : Int)) % 26))) (m.put r o4) = .ok (.p (.str (mk [97 + (f + 7 * j) % 26]))) (m.put r o4) := by
      have : ((f : Int) + 7 * (j : Int)) % 26 = (((f + 7 * j) % 26 : Nat) : Int) := by omega
      rw [this]
      exact ix_s (line_le (by rw [alpha_len]; omega)) (alpha_get (Nat.mod_lt _ (by decide)))
    have z : cs.length ≤ sizeLine := line_le (by omega)
    simp [turn_, wipeD, s_to z, s_from z, o_mulL, o_mod, ei, wordP]
    rw [o_cat (line_le (by simp; omega))]
    simp
    rw [o_cat (line_le (by simp; omega))]
    simp [wordAt]
theorem wordAt_nm {stem : List Nat} {a f k : Nat} (h1 : stem.length ≤ 5) (h2 : ∀ c ∈ stem, 97 ≤ c ∧ c ≤ 122) (h3 : a ≤ stem.length) : IsNm (wordAt stem a f k) := by
  unfold wordAt IsNm
  refine ⟨by simp; omega, by simp; omega, fun c hc => ?_⟩
  rcases List.mem_append.mp hc with h | h
  · exact h2 c (List.mem_of_mem_take h)
  rcases List.mem_append.mp h with h | h
  · have : c = 97 + (f + 7 * k) % 26 := by simpa using h
    omega
  · exact h2 c (List.mem_of_mem_drop h)
end
/-! ### kinds -/
theorem ty_of {d : D} {m : Mem} {k : Nat ⊕ String} (h : kindS d m = some k) : ∀ c : List Ty, isTys c d m = some (c.any fun t => isK t k)
  | [] => rfl
  | t :: c => by
    have e : isTy t d m = some (isK t k) := by unfold isTy; rw [h]; rfl
    unfold isTys
    rw [e, List.any_cons]
    cases isK t k with
    | true => rfl
    | false => exact (ty_of h c).trans (by simp)
@[simp] theorem ty_non_int {m : Mem} : isTys [.int] (.p .non) m = some false := (ty_of (k := .inr "NoneType") rfl _).trans (by decide)
@[simp] theorem ty_non_bool {m : Mem} : isTys [.bool] (.p .non) m = some false := (ty_of (k := .inr "NoneType") rfl _).trans (by decide)
@[simp] theorem ty_non_str {m : Mem} : isTys [.str] (.p .non) m = some false := (ty_of (k := .inr "NoneType") rfl _).trans (by decide)
@[simp] theorem ty_non_list {m : Mem} : isTys [.list] (.p .non) m = some false := (ty_of (k := .inr "NoneType") rfl _).trans (by decide)
@[simp] theorem ty_non_tuple {m : Mem} : isTys [.tuple] (.p .non) m = some false := (ty_of (k := .inr "NoneType") rfl _).trans (by decide)
@[simp] theorem ty_non_dict {m : Mem} : isTys [.dict] (.p .non) m = some false := (ty_of (k := .inr "NoneType") rfl _).trans (by decide)
@[simp] theorem ty_non_lt {m : Mem} : isTys [.list, .tuple] (.p .non) m = some false := (ty_of (k := .inr "NoneType") rfl _).trans (by decide)
@[simp] theorem isN_non : isN (.p .non) = true := Eq.trans rfl rfl
@[simp] theorem ty_bl_int {b : Bool} {m : Mem} : isTys [.int] (.p (.bl b)) m = some true := (ty_of (k := .inr "bool") rfl _).trans (by decide)
@[simp] theorem ty_bl_bool {b : Bool} {m : Mem} : isTys [.bool] (.p (.bl b)) m = some true := (ty_of (k := .inr "bool") rfl _).trans (by decide)
@[simp] theorem ty_bl_str {b : Bool} {m : Mem} : isTys [.str] (.p (.bl b)) m = some false := (ty_of (k := .inr "bool") rfl _).trans (by decide)
@[simp] theorem ty_bl_list {b : Bool} {m : Mem} : isTys [.list] (.p (.bl b)) m = some false := (ty_of (k := .inr "bool") rfl _).trans (by decide)
@[simp] theorem ty_bl_tuple {b : Bool} {m : Mem} : isTys [.tuple] (.p (.bl b)) m = some false := (ty_of (k := .inr "bool") rfl _).trans (by decide)
@[simp] theorem ty_bl_dict {b : Bool} {m : Mem} : isTys [.dict] (.p (.bl b)) m = some false := (ty_of (k := .inr "bool") rfl _).trans (by decide)
@[simp] theorem ty_bl_lt {b : Bool} {m : Mem} : isTys [.list, .tuple] (.p (.bl b)) m = some false := (ty_of (k := .inr "bool") rfl _).trans (by decide)
@[simp] theorem isN_bl {b : Bool} : isN (.p (.bl b)) = false := Eq.trans rfl rfl
@[simp] theorem ty_int_int {i : Int} {m : Mem} : isTys [.int] (.p (.int i)) m = some true := (ty_of (k := .inr "int") rfl _).trans (by decide)
@[simp] theorem ty_int_bool {i : Int} {m : Mem} : isTys [.bool] (.p (.int i)) m = some false := (ty_of (k := .inr "int") rfl _).trans (by decide)
@[simp] theorem ty_int_str {i : Int} {m : Mem} : isTys [.str] (.p (.int i)) m = some false := (ty_of (k := .inr "int") rfl _).trans (by decide)
@[simp] theorem ty_int_list {i : Int} {m : Mem} : isTys [.list] (.p (.int i)) m = some false := (ty_of (k := .inr "int") rfl _).trans (by decide)
@[simp] theorem ty_int_tuple {i : Int} {m : Mem} : isTys [.tuple] (.p (.int i)) m = some false := (ty_of (k := .inr "int") rfl _).trans (by decide)
@[simp] theorem ty_int_dict {i : Int} {m : Mem} : isTys [.dict] (.p (.int i)) m = some false := (ty_of (k := .inr "int") rfl _).trans (by decide)
@[simp] theorem ty_int_lt {i : Int} {m : Mem} : isTys [.list, .tuple] (.p (.int i)) m = some false := (ty_of (k := .inr "int") rfl _).trans (by decide)
@[simp] theorem isN_int {i : Int} : isN (.p (.int i)) = false := Eq.trans rfl rfl
@[simp] theorem ty_str_int {z : Str} {m : Mem} : isTys [.int] (.p (.str z)) m = some false := (ty_of (k := .inr "str") rfl _).trans (by decide)
@[simp] theorem ty_str_bool {z : Str} {m : Mem} : isTys [.bool] (.p (.str z)) m = some false := (ty_of (k := .inr "str") rfl _).trans (by decide)
@[simp] theorem ty_str_str {z : Str} {m : Mem} : isTys [.str] (.p (.str z)) m = some true := (ty_of (k := .inr "str") rfl _).trans (by decide)
@[simp] theorem ty_str_list {z : Str} {m : Mem} : isTys [.list] (.p (.str z)) m = some false := (ty_of (k := .inr "str") rfl _).trans (by decide)
@[simp] theorem ty_str_tuple {z : Str} {m : Mem} : isTys [.tuple] (.p (.str z)) m = some false := (ty_of (k := .inr "str") rfl _).trans (by decide)
@[simp] theorem ty_str_dict {z : Str} {m : Mem} : isTys [.dict] (.p (.str z)) m = some false := (ty_of (k := .inr "str") rfl _).trans (by decide)
@[simp] theorem ty_str_lt {z : Str} {m : Mem} : isTys [.list, .tuple] (.p (.str z)) m = some false := (ty_of (k := .inr "str") rfl _).trans (by decide)
@[simp] theorem isN_str {z : Str} : isN (.p (.str z)) = false := Eq.trans rfl rfl
@[simp] theorem ty_lst_int {l : List P} {m : Mem} : isTys [.int] (.p (.lst l)) m = some false := (ty_of (k := .inr "list") rfl _).trans (by decide)
@[simp] theorem ty_lst_bool {l : List P} {m : Mem} : isTys [.bool] (.p (.lst l)) m = some false := (ty_of (k := .inr "list") rfl _).trans (by decide)
@[simp] theorem ty_lst_str {l : List P} {m : Mem} : isTys [.str] (.p (.lst l)) m = some false := (ty_of (k := .inr "list") rfl _).trans (by decide)
@[simp] theorem ty_lst_list {l : List P} {m : Mem} : isTys [.list] (.p (.lst l)) m = some true := (ty_of (k := .inr "list") rfl _).trans (by decide)
@[simp] theorem ty_lst_tuple {l : List P} {m : Mem} : isTys [.tuple] (.p (.lst l)) m = some false := (ty_of (k := .inr "list") rfl _).trans (by decide)
@[simp] theorem ty_lst_dict {l : List P} {m : Mem} : isTys [.dict] (.p (.lst l)) m = some false := (ty_of (k := .inr "list") rfl _).trans (by decide)
@[simp] theorem ty_lst_lt {l : List P} {m : Mem} : isTys [.list, .tuple] (.p (.lst l)) m = some true := (ty_of (k := .inr "list") rfl _).trans (by decide)
@[simp] theorem isN_lst {l : List P} : isN (.p (.lst l)) = false := Eq.trans rfl rfl
@[simp] theorem ty_tup_int {l : List P} {m : Mem} : isTys [.int] (.p (.tup l)) m = some false := (ty_of (k := .inr "tuple") rfl _).trans (by decide)
@[simp] theorem ty_tup_bool {l : List P} {m : Mem} : isTys [.bool] (.p (.tup l)) m = some false := (ty_of (k := .inr "tuple") rfl _).trans (by decide)
@[simp] theorem ty_tup_str {l : List P} {m : Mem} : isTys [.str] (.p (.tup l)) m = some false := (ty_of (k := .inr "tuple") rfl _).trans (by decide)
@[simp] theorem ty_tup_list {l : List P} {m : Mem} : isTys [.list] (.p (.tup l)) m = some false := (ty_of (k := .inr "tuple") rfl _).trans (by decide)
@[simp] theorem ty_tup_tuple {l : List P} {m : Mem} : isTys [.tuple] (.p (.tup l)) m = some true := (ty_of (k := .inr "tuple") rfl _).trans (by decide)
@[simp] theorem ty_tup_dict {l : List P} {m : Mem} : isTys [.dict] (.p (.tup l)) m = some false := (ty_of (k := .inr "tuple") rfl _).trans (by decide)
@[simp] theorem ty_tup_lt {l : List P} {m : Mem} : isTys [.list, .tuple] (.p (.tup l)) m = some true := (ty_of (k := .inr "tuple") rfl _).trans (by decide)
@[simp] theorem isN_tup {l : List P} : isN (.p (.tup l)) = false := Eq.trans rfl rfl
/-! ### equal data -/
mutual
/-- plain data, no list longer than a line -/
def P.pl : P → Bool
  | .non => true
  | .bl _ => true
  | .int _ => true
  | .str _ => true
  | .tup l => plL l && decide (l.length ≤ 16777216)
  | .lst l => plL l && decide (l.length ≤ 16777216)
  | _ => false
def plL : List P → Bool
  | [] => true
  | x :: l => x.pl && plL l
end
mutual
def P.dep : P → Nat
  | .tup l => depL l + 1
  | .lst l => depL l + 1
  | _ => 0
def depL : List P → Nat
  | [] => 0
  | x :: l => max x.dep (depL l)
end
theorem pl_mem : ∀ {l : List P}, plL l = true → ∀ x ∈ l, x.pl = true ∧ x.dep ≤ depL l
  | [], _, x, h => by cases h
  | y :: l, e, x, h => by
    have e : (y.pl && plL l) = true := e
    rw [Bool.and_eq_true] at e
    have d : depL (y :: l) = max y.dep (depL l) := rfl
    rw [d]
    rcases List.mem_cons.mp h with h | h
    · rw [h]; exact ⟨e.1, Nat.le_max_left _ _⟩
    · obtain ⟨a, b⟩ := pl_mem e.2 x h
      exact ⟨a, Nat.le_trans b (Nat.le_max_right _ _)⟩
theorem zip_self (l : List P) : zipP l l = l.map fun x => .p (.tup [x, x]) := by
  induction l with
  | nil => rfl
  | cons x l ih => show _ :: zipP l l = _; rw [ih]; rfl
@[simp] theorem asg_2 {i j : Nat} {x y : P} {m : Mem} {δ : Sl} : asgT (.tp (.cons (.nm i) (.cons (.nm j) .nil))) (.p (.tup [x, y])) m δ = some ((δ.set i (some (.p x))).set j (some (.p y))) := Eq.trans rfl rfl
@[simp] theorem zip_l {l r : List P} : itZip (.p (.lst l)) (.p (.lst r)) = some ⟨zipP l r, none⟩ := Eq.trans rfl rfl
@[simp] theorem zip_t {l r : List P} : itZip (.p (.tup l)) (.p (.tup r)) = some ⟨zipP l r, none⟩ := Eq.trans rfl rfl
def SameOk (cl : Cl) (n : Nat) : Prop := ∀ (m : Mem) (x : P), x.pl = true → x.dep < n → cl 5 [.p x, .p x] m = .ok (.p (.bl true)) m
section
variable {cl : Cl} {gv : Nat → P} {m : Mem}
theorem same_l {l : List P} (h : ∀ x ∈ l, cl 5 [.p x, .p x] m = .ok (.p (.bl true)) m) (hz : l.length ≤ 16777216) {t : Its} (ht : t.n = none) {δ : Sl} (hd : δ.length = 4) :
    (lcRun (turn (denC cl gv .none) (den cl gv (.call 5 (.cons (.var 2) (.cons (.var 3) .nil)))) (.tp (.cons (.nm 2) (.cons (.nm 3) .nil))) δ) t (l.map fun x => .p (.tup [x, x])) m).bind (mkL false) = .ok (.p (.lst ((l.map fun _ => true).map P.bl))) m := by
  rw [lc_map (g := fun _ => .p (.bl true)) ht fun x hx => ?_]
  · have e : (l.map fun _ => D.p (.bl true)) = ((l.map fun _ => true).map P.bl).map D.p := by simp [Function.comp_def]
    rw [e]
    exact mkL_p (line_le (by simpa using hz))
  · match δ, hd with
    | [a, b, c, d], _ => simp [turn_, h x hx]
theorem same_1 {x : P} (hx : x.pl = true) (h : ∀ y : P, y.pl = true → y.dep < x.dep → cl 5 [.p y, .p y] m = .ok (.p (.bl true)) m) : runD cl gv D__law_same [.p x, .p x] m = .ok (.p (.bl true)) m := by
  unfold D__law_same
  rw [runD_ok (np := 2) rfl]
  cases x with
  | non => simp [B__law_same_12, B__law_same_11]
  | bl b => simp [B__law_same_12, B__law_same_10, B__law_same_9]
  | int i => simp [B__law_same_12, B__law_same_10, B__law_same_8, B__law_same_2, B__law_same_0]
  | str z => simp [B__law_same_12, B__law_same_10, B__law_same_8, B__law_same_2, B__law_same_0]
  | tup l =>
    have hx' : plL l = true ∧ l.length ≤ 16777216 := by
      have e : (plL l && decide (l.length ≤ 16777216)) = true := hx
      rw [Bool.and_eq_true] at e
      exact ⟨e.1, of_decide_eq_true e.2⟩
    have key := fun (δ : Sl) hd => same_l (cl := cl) (gv := gv) (m := m) (l := l) (δ := δ) (t := ⟨l.map fun x => .p (.tup [x, x]), none⟩) (fun y hy => h y (pl_mem hx'.1 y hy).1 (Nat.lt_succ_of_le (pl_mem hx'.1 y hy).2)) hx'.2 rfl hd
    simp [B__law_same_12, B__law_same_10, B__law_same_8, B__law_same_7, B__law_same_5, B__law_same_3, v_lc, zip_self, wipeD]
    rw [key _ rfl]
    simp only [R.bind_ok, l_nil, all_]
    simp
  | lst l =>
    have hx' : plL l = true ∧ l.length ≤ 16777216 := by
      have e : (plL l && decide (l.length ≤ 16777216)) = true := hx
      rw [Bool.and_eq_true] at e
      exact ⟨e.1, of_decide_eq_true e.2⟩
    have key := fun (δ : Sl) hd => same_l (cl := cl) (gv := gv) (m := m) (l := l) (δ := δ) (t := ⟨l.map fun x => .p (.tup [x, x]), none⟩) (fun y hy => h y (pl_mem hx'.1 y hy).1 (Nat.lt_succ_of_le (pl_mem hx'.1 y hy).2)) hx'.2 rfl hd
    simp [B__law_same_12, B__law_same_10, B__law_same_8, B__law_same_7, B__law_same_5, B__law_same_3, v_lc, zip_self, wipeD]
    rw [key _ rfl]
    simp only [R.bind_ok, l_nil, all_]
    simp
  | _ => cases hx
end
theorem same_ok {p : Pg} (hf : p.fd 5 = some D__law_same) : ∀ n k : Nat, SameOk (callAt p (n + k)) n
  | 0, k => fun m x _ h => absurd h (Nat.not_lt_zero _)
  | n + 1, k => fun m x hx hd => by
    have : n + 1 + k = (n + k) + 1 := by omega
    rw [this, callAt_ok hf]
    exact same_1 hx fun y hy hd2 => same_ok hf n k m y hy (by omega)
end Dn
end

/-! Dn, part X: names and numbers. -/
noncomputable section
namespace Dn
open PySem PySem.Spec PyProof.Rows L2
theorem in_sgn {c : Nat} {l : List Nat} {m : Mem} : cmpS .inn (.p (.str (mk [c]))) (.p (.str (mk l))) m = .ok (.p (.bl (decide (c ∈ l)))) m := Eq.trans rfl rfl
theorem it_mk {l : List Nat} {m : Mem} : itSeq (.p (.str (mk l))) m = some ⟨l.map fun c => .p (.str (mk [c])), none⟩ := Eq.trans rfl rfl
@[simp] theorem its_lst {l : List P} {m : Mem} : itSeq (.p (.lst l)) m = some ⟨l.map D.p, none⟩ := Eq.trans rfl rfl
@[simp] theorem its_tup {l : List P} {m : Mem} : itSeq (.p (.tup l)) m = some ⟨l.map D.p, none⟩ := Eq.trans rfl rfl
/-- is it a name -/
def nmL (l : List Nat) : Bool := decide (1 ≤ l.length) && decide (l.length ≤ 6) && l.all fun c => decide (c ∈ alpha)
def nmP : P → Bool
  | .str z => nmL z.cps.toList
  | _ => false
theorem nmL_ok {l : List Nat} (h : IsNm l) : nmL l = true := by
  unfold nmL
  rw [Bool.and_eq_true, Bool.and_eq_true]
  refine ⟨⟨decide_eq_true h.1, decide_eq_true h.2.1⟩, List.all_eq_true.mpr fun c hc => decide_eq_true (alpha_mem.mpr (h.2.2 c hc))⟩
theorem nmL_bad {l : List Nat} {c : Nat} (hc : c ∈ l) (h : ¬ (97 ≤ c ∧ c ≤ 122)) : nmL l = false := by
  unfold nmL
  rw [Bool.and_eq_false_iff]
  right
  rw [List.all_eq_false]
  exact ⟨c, hc, by simpa using fun z => h (alpha_mem.mp z)⟩
theorem nmL_long {l : List Nat} (h : 6 < l.length) : nmL l = false := by
  unfold nmL
  rw [decide_eq_false (by omega : ¬ l.length ≤ 6)]
  simp
/-- what a test of one value may be asked -/
def P.ask : P → Bool
  | .non => true
  | .bl _ => true
  | .int _ => true
  | .str z => decide (z.length ≤ 16777216)
  | .tup _ => true
  | .lst _ => true
  | _ => false
section
variable {cl : Cl} {gv : Nat → P} {m : Mem}
theorem is_name_1 (g0 : gv 0 = .str (mk alpha)) (g1 : gv 1 = .int 6) {x : P} (hx : x.ask = true) : runD cl gv D_is_name [.p x] m = .ok (.p (.bl (nmP x))) m := by
  unfold D_is_name
  rw [runD_ok (np := 1) rfl]
  cases x with
  | non => simp [B_is_name_2, B_is_name_1, nmP]
  | bl b => simp [B_is_name_2, B_is_name_1, nmP]
  | int i => simp [B_is_name_2, B_is_name_1, nmP]
  | tup l => simp [B_is_name_2, B_is_name_1, nmP]
  | lst l => simp [B_is_name_2, B_is_name_1, nmP]
  | str z =>
    have hz : z.cps.toList.length ≤ 16777216 := of_decide_eq_true hx
    show endS (denB cl gv B_is_name_2 (startD 2 [.p (.str z)]) m) = .ok (.p (.bl (nmL z.cps.toList))) m
    rw [mk_of z]
    generalize z.cps.toList = l at *
    rw [mk_list]
    by_cases c1 : 1 ≤ l.length
    · by_cases c2 : l.length ≤ 6
      · have c1' : (1 : Int) ≤ (l.length : Int) := by omega
        have c2' : (l.length : Int) ≤ 6 := by omega
        simp [B_is_name_2, len_mk (line_le hz), g1, c1', c2', B_is_name_0, v_lc, it_mk]
        rw [lc_map (g := fun c => .p (.bl (decide (c ∈ alpha)))) rfl fun c hc => by simp [turn_, wipeD, g0, in_sgn]]
        have e : (l.map fun c => D.p (.bl (decide (c ∈ alpha)))) = ((l.map fun c => decide (c ∈ alpha)).map P.bl).map D.p := by simp [Function.comp_def]
        simp only [R.bind_ok, e]
        rw [mkL_p (line_le (by simpa using hz))]
        simp only [R.bind_ok, l_nil, all_]
        simp [nmL, c1, c2, List.all_map, Function.comp_def]
      · have c2' : ¬ (l.length : Int) ≤ 6 := by omega
        have c1' : (1 : Int) ≤ (l.length : Int) := by omega
        simp [B_is_name_2, len_mk (line_le hz), g1, c1', c2', B_is_name_1, nmL, c2]
    · have c1' : ¬ (1 : Int) ≤ (l.length : Int) := by omega
      simp [B_is_name_2, len_mk (line_le hz), g1, c1', B_is_name_1, nmL, c1]
  | _ => cases hx
def nuP : P → Bool
  | .int _ => true
  | _ => false
theorem is_number_1 {x : P} (hx : x.ask = true) : runD cl gv D_is_number [.p x] m = .ok (.p (.bl (nuP x))) m := by
  unfold D_is_number
  rw [runD_ok (np := 1) rfl]
  cases x with
  | non => simp [B_is_number_0, nuP]
  | bl b => simp [B_is_number_0, nuP]
  | int i => simp [B_is_number_0, nuP]
  | tup l => simp [B_is_number_0, nuP]
  | lst l => simp [B_is_number_0, nuP]
  | str z => simp [B_is_number_0, nuP]
  | _ => cases hx
end
def NameOk (cl : Cl) : Prop := ∀ (m : Mem) (x : P), x.ask = true → cl 1 [.p x] m = .ok (.p (.bl (nmP x))) m
def NumOk (cl : Cl) : Prop := ∀ (m : Mem) (x : P), x.ask = true → cl 0 [.p x] m = .ok (.p (.bl (nuP x))) m
theorem name_ok {p : Pg} {k : Nat} (hf : p.fd 1 = some D_is_name) (g0 : p.gv 0 = .str (mk alpha)) (g1 : p.gv 1 = .int 6) : NameOk (callAt p (k + 1)) := fun m x hx => by
  rw [callAt_ok hf]
  exact is_name_1 g0 g1 hx
theorem num_ok {p : Pg} {k : Nat} (hf : p.fd 0 = some D_is_number) : NumOk (callAt p (k + 1)) := fun m x hx => by
  rw [callAt_ok hf]
  exact is_number_1 hx
/-- drawn words -/
def WordsOk (cl : Cl) : Prop := ∀ (m : Mem) (r : Nat) (o : MO) (n : Nat), m.get r = some o → BagO o → n ≤ 1000000 → ∃ (stem : List Nat) (a f : Nat) (o' : MO), cl 6 [.ref r, .p (.int n)] m = .ok (.p (.lst ((List.range n).map (wordP stem a f)))) (m.put r o') ∧ BagO o' ∧
  stem.length ≤ 5 ∧ (∀ c ∈ stem, 97 ≤ c ∧ c ≤ 122) ∧ a ≤ stem.length ∧ f < 26
theorem words_ok {p : Pg} {k : Nat} (hp : p.fd 3 = some D__law_pull) (ho : p.fd 4 = some D__law_of) (hf : p.fd 6 = some D__law_words) : WordsOk (callAt p (k + 3)) := fun m r o n h hb hn => by
  rw [callAt_ok hf]
  exact words_1 (pull_ok hp) (ofs_ok hp ho) h hb n hn
end Dn
end

/-! k02, the plain law. -/
noncomputable section
namespace Law
open Dn PySem PySem.Spec PyProof.Rows L2
/-! law -/
def B_law_0 : RB := .cons (.ret (.call 5 (.cons (.bin .add (.var 8) (.lst false (.cons (.callK 0 .nil (.cons (.var 7) .nil) [0]) .nil))) (.cons (.bin .add (.bin .add (.bin .mul (.lst false (.cons (.cst (.bl true)) .nil)) (.cst (.int 4))) (.bin .mul (.lst false (.cons (.cst (.bl false)) .nil)) (.cst (.int 5)))) (.lst false (.cons (.cst (.bl true)) .nil))) .nil)))) .nil
def B_law_1 : RB := .cons (.set 8 (.lc false (.call 0 (.cons (.var 9) .nil)) (.nm 9) (.seq (.lst false (.cons (.var 7) (.cons (.bin .sub (.cst (.int 0)) (.var 7)) (.cons (.cst (.int 0)) (.cons (.bin .pow (.cst (.int 10)) (.cst (.int 19))) (.cons (.cst (.bl true)) (.cons (.cst (.bl false)) (.cons (.cst .non) (.cons (.cst (.str "1")) (.cons (.tup (.cons (.cst (.int 1)) .nil)) .nil))))))))))) .none [9])) B_law_0
def B_law_2 : RB := .cons (.set 7 (.call 3 (.cons (.var 1) (.cons (.bin .pow (.cst (.int 10)) (.cst (.int 9))) .nil)))) B_law_1
def B_law_3 : RB := .cons (.ret (.cst (.bl false))) .nil
def B_law_4 : RB := .cons (.ite (.not (.call 5 (.cons (.lc false (.call 1 (.cons (.var 9) .nil)) (.nm 9) (.seq (.var 6)) .none [9]) (.cons (.bin .mul (.lst false (.cons (.cst (.bl false)) .nil)) (.cst (.int 8))) .nil)))) B_law_3 .nil) B_law_2
def B_law_5 : RB := .cons (.set 6 (.lst false (.cons (.var 4) (.cons (.cst (.str "")) (.cons (.cst .non) (.cons (.cst (.int 3)) (.cons (.cst (.bl true)) (.cons (.tup (.cons (.cst (.str "a")) .nil)) (.cons (.lst false (.cons (.cst (.str "a")) .nil)) (.cons (.bin .add (.ix (.var 2) (.cst (.int 2))) (.cst (.str " "))) .nil)))))))))) B_law_4
def B_law_6 : RB := .cons (.ret (.cst (.bl false))) .nil
def B_law_7 : RB := .cons (.ite (.not (.call 5 (.cons (.lst false (.cons (.callK 1 .nil (.cons (.sl (.var 5) .none (.some (.cst (.int 6)))) .nil) [0]) (.cons (.call 1 (.cons (.var 5) .nil)) (.cons (.call 1 (.cons (.cst (.str "z")) .nil)) .nil)))) (.cons (.lst false (.cons (.cst (.bl true)) (.cons (.cst (.bl false)) (.cons (.cst (.bl true)) .nil)))) .nil)))) B_law_6 .nil) B_law_5
def B_law_8 : RB := .cons (.ret (.cst (.bl false))) .nil
def B_law_9 : RB := .cons (.ite (.not (.call 5 (.cons (.lc false (.call 1 (.cons (.var 9) .nil)) (.nm 9) (.seq (.var 2)) .none [9]) (.cons (.bin .mul (.lst false (.cons (.cst (.bl true)) .nil)) (.cst (.int 4))) .nil)))) B_law_8 .nil) B_law_7
def B_law_10 : RB := .cons (.set 5 (.bin .add (.ix (.var 2) (.cst (.int 1))) (.sl (.cst (.str "abcdefg")) (.some (.bcl .len (.cons (.ix (.var 2) (.cst (.int 1))) .nil))) .none))) B_law_9
def B_law_11 : RB := .cons (.set 4 (.bin .add (.bin .add (.sl (.ix (.var 2) (.cst (.int 0))) .none (.some (.var 3))) (.call 4 (.cons (.var 1) (.cons (.lst false (.cons (.cst (.str "A")) (.cons (.cst (.str "1")) (.cons (.cst (.str " ")) (.cons (.cst (.str "-")) (.cons (.cst (.str "_")) (.cons (.cst (.str "\n")) (.cons (.cst (.str "Z")) .nil)))))))) .nil)))) (.sl (.ix (.var 2) (.cst (.int 0))) (.some (.var 3)) .none))) B_law_10
def B_law_12 : RB := .cons (.set 3 (.call 3 (.cons (.var 1) (.cons (.bin .add (.bcl .len (.cons (.ix (.var 2) (.cst (.int 0))) .nil)) (.cst (.int 1))) .nil)))) B_law_11
def B_law_13 : RB := .cons (.set 2 (.call 6 (.cons (.var 1) (.cons (.cst (.int 4)) .nil)))) B_law_12
def B_law_14 : RB := .cons (.set 1 (.call 2 (.cons (.var 0) .nil))) B_law_13
def D_law : FD := ⟨1, 10, [], false, B_law_14⟩

section
variable {cl : Cl} {gv : Nat → Dn.P}
theorem rep_t (n : Nat) : (List.replicate n [Dn.P.bl true]).flatten = List.replicate n (Dn.P.bl true) := by
  induction n with
  | zero => rfl
  | succ n ih => rw [List.replicate_succ, List.flatten_cons, ih]; rfl
theorem sA : Str.ofString "A" = mk [65] := by decide +kernel
theorem s1 : Str.ofString "1" = mk [49] := by decide +kernel
theorem sS : Str.ofString " " = mk [32] := by decide +kernel
theorem sM : Str.ofString "-" = mk [45] := by decide +kernel
theorem sU : Str.ofString "_" = mk [95] := by decide +kernel
theorem sN : Str.ofString "\n" = mk [10] := by decide +kernel
theorem sZ : Str.ofString "Z" = mk [90] := by decide +kernel
theorem sz : Str.ofString "z" = mk [122] := by decide +kernel
theorem sa : Str.ofString "a" = mk [97] := by decide +kernel
theorem sG : Str.ofString "abcdefg" = mk [97, 98, 99, 100, 101, 102, 103] := by decide +kernel
theorem o_repL {x : Dn.P} {n : Nat} {m : Mem} (h : n ≤ 1000) : binS .mul (.p (.lst [x])) (.p (.int (n : Int))) m = .ok (.p (.lst (List.replicate n x))) m := by
  have e : binS .mul (.p (.lst [x])) (.p (.int (n : Int))) m = if -(2 ^ 63) ≤ (n : Int) ∧ (n : Int) < 2 ^ 63 ∧ [x].length * (n : Int).toNat ≤ sizeLine then .ok (.p (.lst (List.replicate (n : Int).toNat [x]).flatten)) m else .no := rfl
  rw [e, if_pos ⟨by omega, by omega, by simp; exact line_le (by omega)⟩]
  have : (List.replicate (n : Int).toNat [x]).flatten = List.replicate n x := by
    rw [Int.toNat_natCast]
    induction n with
    | zero => rfl
    | succ n ih =>
      rw [List.replicate_succ, List.flatten_cons, List.replicate_succ, ih (by omega) rfl]
      rfl
  rw [this]
theorem o_catL {x y : List Dn.P} {m : Mem} (h : x.length + y.length ≤ sizeLine) : binS .add (.p (.lst x)) (.p (.lst y)) m = .ok (.p (.lst (x ++ y))) m := by
  have e : binS .add (.p (.lst x)) (.p (.lst y)) m = if (x.map D.p).length + (y.map D.p).length ≤ sizeLine then mkL false (x.map D.p ++ y.map D.p) m else .no := rfl
  rw [e, if_pos (by rw [List.length_map, List.length_map]; exact h), ← List.map_append]
  exact mkL_p (by rw [List.length_append]; exact h)
theorem nms {l : List Dn.P} {m : Mem} {e : RE} {δ : Sl} (he : den cl gv e δ m = .ok (.p (.lst l)) m) (hd : δ.length = 10) (N1 : NameOk cl) (ha : ∀ x ∈ l, x.ask = true) (hz : l.length ≤ 100) :
    den cl gv (.lc false (.call 1 (.cons (.var 9) .nil)) (.nm 9) (.seq e) .none [9]) δ m = .ok (.p (.lst (l.map fun x => .bl (nmP x)))) m := by
  match δ, hd with
  | [a0, a1, a2, a3, a4, a5, a6, a7, a8, a9], _ =>
    rw [v_lc]
    simp only [i_seq', he, R.bind_ok, its_lst, oR_some]
    rw [lc_map (g := fun x => .p (.bl (nmP x))) rfl fun x hx => by simp [turn_, wipeD, N1 m x (ha x hx)]]
    have e : (l.map fun x => D.p (.bl (nmP x))) = (l.map fun x => Dn.P.bl (nmP x)).map D.p := by simp [Function.comp_def]
    simp only [R.bind_ok, e]
    exact mkL_p (line_le (by simp; omega))
theorem nus {l : List Dn.P} {m : Mem} {e : RE} {δ : Sl} (he : den cl gv e δ m = .ok (.p (.lst l)) m) (hd : δ.length = 10) (U1 : NumOk cl) (ha : ∀ x ∈ l, x.ask = true) (hz : l.length ≤ 100) :
    den cl gv (.lc false (.call 0 (.cons (.var 9) .nil)) (.nm 9) (.seq e) .none [9]) δ m = .ok (.p (.lst (l.map fun x => .bl (nuP x)))) m := by
  match δ, hd with
  | [a0, a1, a2, a3, a4, a5, a6, a7, a8, a9], _ =>
    rw [v_lc]
    simp only [i_seq', he, R.bind_ok, its_lst, oR_some]
    rw [lc_map (g := fun x => .p (.bl (nuP x))) rfl fun x hx => by simp [turn_, wipeD, U1 m x (ha x hx)]]
    have e : (l.map fun x => D.p (.bl (nuP x))) = (l.map fun x => Dn.P.bl (nuP x)).map D.p := by simp [Function.comp_def]
    simp only [R.bind_ok, e]
    exact mkL_p (line_le (by simp; omega))
theorem law_1 (B1 : BagOk cl) (P1 : PullOk cl) (O1 : OfL cl) (S1 : SameOk cl 3) (W1 : WordsOk cl) (N1 : NameOk cl) (U1 : NumOk cl) (ns : List Int) (hl : ns.length ≤ 63) : ∃ m, runD cl gv D_law [.p (.scr ns)] [] = .ok (.p (.bl true)) m := by
  unfold D_law
  rw [runD_ok (np := 1) rfl]
  obtain ⟨o0, e0, b0⟩ := B1 [] ns hl
  have g0 : ([some o0] : Mem).get 0 = some o0 := rfl
  have e0' : cl 2 [.p (.scr ns)] [] = .ok (.ref 0) [some o0] := e0
  obtain ⟨stem, a, f, o1, e1, b1, w1, w2, w3, w4⟩ := W1 [some o0] 0 o0 4 g0 b0 (by decide)
  have nm : ∀ k, IsNm (wordAt stem a f k) := fun k => wordAt_nm w1 w2 w3
  have e1' : cl 6 [.ref 0, .p (.int 4)] [some o0] = .ok (.p (.lst [.str (mk (wordAt stem a f 0)), .str (mk (wordAt stem a f 1)), .str (mk (wordAt stem a f 2)), .str (mk (wordAt stem a f 3))])) [some o1] := e1
  have n0 := nm 0
  have n1 := nm 1
  have n2 := nm 2
  have n3 := nm 3
  generalize wordAt stem a f 0 = w0 at *
  generalize wordAt stem a f 1 = v1 at *
  generalize wordAt stem a f 2 = v2 at *
  generalize wordAt stem a f 3 = v3 at *
  have z0 : w0.length ≤ sizeLine := line_le (by have := n0.2.1; omega)
  have z1 : v1.length ≤ sizeLine := line_le (by have := n1.2.1; omega)
  have z2 : v2.length ≤ sizeLine := line_le (by have := n2.2.1; omega)
  have i0 : ∀ m, ixS (.p (.lst [.str (mk w0), .str (mk v1), .str (mk v2), .str (mk v3)])) (.p (.int 0)) m = .ok (.p (.str (mk w0))) m := fun m => ix_l (k := 0) rfl
  have i1 : ∀ m, ixS (.p (.lst [.str (mk w0), .str (mk v1), .str (mk v2), .str (mk v3)])) (.p (.int 1)) m = .ok (.p (.str (mk v1))) m := fun m => ix_l (k := 1) rfl
  have i2 : ∀ m, ixS (.p (.lst [.str (mk w0), .str (mk v1), .str (mk v2), .str (mk v3)])) (.p (.int 2)) m = .ok (.p (.str (mk v2))) m := fun m => ix_l (k := 2) rfl
  obtain ⟨at_, o2, e2, b2, u2⟩ := P1.nat (m := [some o1]) (r := 0) rfl b1 (w0.length + 1) (by omega) (by have := n0.2.1; omega)
  have e2' : cl 3 [.ref 0, .p (.int ((w0.length : Int) + 1))] [some o1] = .ok (.p (.int (at_ : Int))) [some o2] := e2
  obtain ⟨x, o3, e3, b3, hx⟩ := O1 [some o2] 0 o2 [.str (mk [65]), .str (mk [49]), .str (mk [32]), .str (mk [45]), .str (mk [95]), .str (mk [10]), .str (mk [90])] rfl b2 (by simp) (by simp)
  have e3' : cl 4 [.ref 0, .p (.lst [.str (mk [65]), .str (mk [49]), .str (mk [32]), .str (mk [45]), .str (mk [95]), .str (mk [10]), .str (mk [90])])] [some o2] = .ok (.p x) [some o3] := e3
  obtain ⟨c, rfl, hc⟩ : ∃ c, x = .str (mk [c]) ∧ ¬ (97 ≤ c ∧ c ≤ 122) := by
    simp only [List.mem_cons, List.not_mem_nil, or_false] at hx
    rcases hx with rfl | rfl | rfl | rfl | rfl | rfl | rfl <;> exact ⟨_, rfl, by decide⟩
  obtain ⟨near, o4, e4, b4, u4⟩ := P1.nat (m := [some o3]) (r := 0) rfl b3 1000000000 (by decide) (by decide)
  have e4' : cl 3 [.ref 0, .p (.int 1000000000)] [some o3] = .ok (.p (.int (near : Int))) [some o4] := e4
  -- the texts
  have mkl : ∀ (l : List Dn.P) (m : Mem), l.length ≤ 100 → mkL false (l.map D.p) m = .ok (.p (.lst l)) m := fun l m h => mkL_p (line_le (by omega))
  have same : ∀ (m : Mem) (x : Dn.P), x.pl = true → x.dep < 3 → cl 5 [.p x, .p x] m = .ok (.p (.bl true)) m := S1
  simp [B_law_14, e0', B_law_13, e1', B_law_12, i0, len_mk z0, e2']
  have k1 : ∀ m, slS (.p (.str (mk w0))) none (some (at_ : Int)) m = .ok (.p (.str (mk (w0.take at_)))) m := fun m => s_to z0 at_
  have k2 : ∀ m, slS (.p (.str (mk w0))) (some (at_ : Int)) none m = .ok (.p (.str (mk (w0.drop at_)))) m := fun m => s_from z0 at_
  have l1 : (w0.take at_).length ≤ 6 := by have := n0.2.1; simp; omega
  have l2 : (w0.drop at_).length ≤ 6 := by have := n0.2.1; simp; omega
  have k3 : ∀ m, binS .add (.p (.str (mk (w0.take at_)))) (.p (.str (mk [c]))) m = .ok (.p (.str (mk (w0.take at_ ++ [c])))) m := fun m => o_cat (line_le (by rw [List.length_singleton]; omega))
  have k4 : ∀ m, binS .add (.p (.str (mk (w0.take at_ ++ [c])))) (.p (.str (mk (w0.drop at_)))) m = .ok (.p (.str (mk (w0.take at_ ++ [c] ++ w0.drop at_)))) m := fun m => o_cat (line_le (by rw [List.length_append, List.length_singleton]; omega))
  have bad : nmL (w0.take at_ ++ [c] ++ w0.drop at_) = false := nmL_bad (c := c) (by simp) hc
  have badl : (w0.take at_ ++ [c] ++ w0.drop at_).length ≤ 16777216 := by rw [List.length_append, List.length_append, List.length_singleton]; omega
  generalize w0.take at_ ++ [c] ++ w0.drop at_ = bent at *
  simp [B_law_11, i0, k1, k2, sA, s1, sS, sM, sU, sN, sZ, mkL, allP, PySem.sizeLine_eq, e3', k3, k4]
  -- the long one
  have lg : v1.length ≤ 6 := n1.2.1
  have j1 : ∀ m, slS (.p (.str (mk [97, 98, 99, 100, 101, 102, 103]))) (some (v1.length : Int)) none m = .ok (.p (.str (mk ([97, 98, 99, 100, 101, 102, 103].drop v1.length)))) m := fun m => s_from (line_le (by simp)) _
  have j2 : ∀ m, binS .add (.p (.str (mk v1))) (.p (.str (mk ([97, 98, 99, 100, 101, 102, 103].drop v1.length)))) m = .ok (.p (.str (mk (v1 ++ [97, 98, 99, 100, 101, 102, 103].drop v1.length)))) m := fun m => o_cat (line_le (by simp; omega))
  have ll : (v1 ++ [97, 98, 99, 100, 101, 102, 103].drop v1.length).length = 7 := by simp; omega
  have la : ∀ c ∈ v1 ++ [97, 98, 99, 100, 101, 102, 103].drop v1.length, 97 ≤ c ∧ c ≤ 122 := fun c hc => by
    rcases List.mem_append.mp hc with h | h
    · exact n1.2.2 c h
    · have := List.mem_of_mem_drop h
      simp at this
      omega
  simp [B_law_10, i1, len_mk z1, sG, j1, j2]
  generalize v1 ++ [97, 98, 99, 100, 101, 102, 103].drop v1.length = long at *
  have long6 : IsNm (long.take 6) := ⟨by simp; omega, by simp; omega, fun c hc => la c (List.mem_of_mem_take hc)⟩
  -- the four names
  have y0 : w0.length ≤ 16777216 := by have := n0.2.1; omega
  have y1 : v1.length ≤ 16777216 := by omega
  have y2 : v2.length ≤ 16777216 := by have := n2.2.1; omega
  have y3 : v3.length ≤ 16777216 := by have := n3.2.1; omega
  have a1 := fun x0 x1 x3 x4 x5 x6 x7 x8 x9 => nms (cl := cl) (gv := gv) (l := [.str (mk w0), .str (mk v1), .str (mk v2), .str (mk v3)]) (m := [some o3]) (e := .var 2) (δ := [x0, x1, some (.p (.lst [.str (mk w0), .str (mk v1), .str (mk v2), .str (mk v3)])), x3, x4, x5, x6, x7, x8, x9]) (by simp) rfl N1 (by simp [P.ask, y0, y1, y2, y3]) (by simp)
  have p1 : ([.str (mk w0), .str (mk v1), .str (mk v2), .str (mk v3)] : List Dn.P).map (fun x => Dn.P.bl (nmP x)) = [.bl true, .bl true, .bl true, .bl true] := by simp [nmP, nmL_ok n0, nmL_ok n1, nmL_ok n2, nmL_ok n3]
  rw [p1] at a1
  have rt : ∀ m, binS .mul (.p (.lst [.bl true])) (.p (.int 4)) m = .ok (.p (.lst [.bl true, .bl true, .bl true, .bl true])) m := fun m => o_repL (n := 4) (by decide)
  have rf : ∀ m, binS .mul (.p (.lst [.bl false])) (.p (.int 8)) m = .ok (.p (.lst [.bl false, .bl false, .bl false, .bl false, .bl false, .bl false, .bl false, .bl false])) m := fun m => o_repL (n := 8) (by decide)
  have rg : ∀ m, binS .mul (.p (.lst [.bl false])) (.p (.int 5)) m = .ok (.p (.lst [.bl false, .bl false, .bl false, .bl false, .bl false])) m := fun m => o_repL (n := 5) (by decide)
  have t1 := same [some o3] (.lst [.bl true, .bl true, .bl true, .bl true]) (by decide) (by decide)
  rw [B_law_9]
  simp [a1, mkL, allP, PySem.sizeLine_eq, rt, t1]
  -- the long one
  have u1 : slS (.p (.str (mk long))) none (some 6) [some o3] = .ok (.p (.str (mk (long.take 6)))) [some o3] := s_to (line_le (by omega)) 6
  have c1 := N1 [some o3] (.str (mk (long.take 6))) (by simp [P.ask]; omega)
  have c2 := N1 [some o3] (.str (mk long)) (by simp [P.ask]; omega)
  have c3 := N1 [some o3] (.str (mk [122])) (by simp [P.ask])
  have d1 : nmP (.str (mk (long.take 6))) = true := nmL_ok long6
  have d2 : nmP (.str (mk long)) = false := nmL_long (by rw [mk_list]; omega)
  have d3 : nmP (.str (mk [122])) = true := by decide
  rw [d1] at c1
  rw [d2] at c2
  rw [d3] at c3
  have t2 := same [some o3] (.lst [.bl true, .bl false, .bl true]) (by decide) (by decide)
  simp [B_law_7, u1, c1, c2, c3, sz, permL, mkL, allP, PySem.sizeLine_eq, t2]
  -- odd values
  have sp : binS .add (.p (.str (mk v2))) (.p (.str (mk [32]))) [some o3] = .ok (.p (.str (mk (v2 ++ [32])))) [some o3] := o_cat (line_le (by simp; have := n2.2.1; omega))
  have emp := empty_str
  simp [B_law_5, sa, sS, emp, i2, sp, mkL, mkT, allP, PySem.sizeLine_eq]
  have y4 : (v2 ++ [32]).length ≤ 16777216 := by simp; have := n2.2.1; omega
  have d4 : nmL (v2 ++ [32]) = false := nmL_bad (c := 32) (by simp) (by decide)
  generalize v2 ++ [32] = sp2 at *
  have a2 := fun x0 x1 x2 x3 x4 x5 x7 x8 x9 => nms (cl := cl) (gv := gv) (l := [.str (mk bent), .str (mk []), .non, .int 3, .bl true, .tup [.str (mk [97])], .lst [.str (mk [97])], .str (mk sp2)]) (m := [some o3]) (e := .var 6) (δ := [x0, x1, x2, x3, x4, x5, some (.p (.lst [.str (mk bent), .str (mk []), .non, .int 3, .bl true, .tup [.str (mk [97])], .lst [.str (mk [97])], .str (mk sp2)])), x7, x8, x9]) (by simp) rfl N1 (by simp [P.ask, badl, y4]) (by simp)
  have p2 : ([.str (mk bent), .str (mk []), .non, .int 3, .bl true, .tup [.str (mk [97])], .lst [.str (mk [97])], .str (mk sp2)] : List Dn.P).map (fun x => Dn.P.bl (nmP x)) = [.bl false, .bl false, .bl false, .bl false, .bl false, .bl false, .bl false, .bl false] := by
    simp [nmP, bad, d4]
    decide
  rw [p2] at a2
  have t3 := same [some o3] (.lst [.bl false, .bl false, .bl false, .bl false, .bl false, .bl false, .bl false, .bl false]) (by decide) (by decide)
  rw [B_law_4]
  simp [a2, mkL, allP, PySem.sizeLine_eq, rf, t3]
  -- numbers
  have pw9 : ∀ m, binS .pow (.p (.int 10)) (.p (.int 9)) m = .ok (.p (.int 1000000000)) m := fun m => o_pow (i := 10) (j := 9) (by decide) (by decide) (by decide)
  have pw19 : ∀ m, binS .pow (.p (.int 10)) (.p (.int 19)) m = .ok (.p (.int 10000000000000000000)) m := fun m => o_pow (i := 10) (j := 19) (by decide) (by decide) (by decide)
  simp [B_law_2, pw9, e4']
  have a3 := fun x0 x1 x2 x3 x4 x5 x6 x8 x9 => nus (cl := cl) (gv := gv) (l := [.int near, .int (0 - near), .int 0, .int 10000000000000000000, .bl true, .bl false, .non, .str (mk [49]), .tup [.int 1]]) (m := [some o4]) (e := .lst false (.cons (.var 7) (.cons (.bin .sub (.cst (.int 0)) (.var 7)) (.cons (.cst (.int 0)) (.cons (.bin .pow (.cst (.int 10)) (.cst (.int 19))) (.cons (.cst (.bl true)) (.cons (.cst (.bl false)) (.cons (.cst .non) (.cons (.cst (.str "1")) (.cons (.tup (.cons (.cst (.int 1)) .nil)) .nil)))))))))) (δ := [x0, x1, x2, x3, x4, x5, x6, some (.p (.int near)), x8, x9]) (by simp [pw19, s1, mkL, mkT, allP, PySem.sizeLine_eq]) rfl U1 (by simp [P.ask]) (by simp)
  have p3 : ([.int near, .int (0 - near), .int 0, .int 10000000000000000000, .bl true, .bl false, .non, .str (mk [49]), .tup [.int 1]] : List Dn.P).map (fun x => Dn.P.bl (nuP x)) = [.bl true, .bl true, .bl true, .bl true, .bl false, .bl false, .bl false, .bl false, .bl false] := by simp [nuP]
  rw [p3] at a3
  have c4 := U1 [some o4] (.int near) rfl
  have d5 : nuP (.int near) = true := rfl
  rw [d5] at c4
  have t4 := same [some o4] (.lst [.bl true, .bl true, .bl true, .bl true, .bl false, .bl false, .bl false, .bl false, .bl false, .bl true]) (by decide) (by decide)
  rw [B_law_1]
  simp [a3]
  rw [B_law_0]
  simp [c4, permL, mkL, allP, PySem.sizeLine_eq, rt, rg, o_catL, t4]
theorem law_pure {p : Pg} (h0 : p.fd 0 = some D_is_number) (h1 : p.fd 1 = some D_is_name) (h2 : p.fd 2 = some D__law_bag) (h3 : p.fd 3 = some D__law_pull) (h4 : p.fd 4 = some D__law_of) (h5 : p.fd 5 = some D__law_same) (h6 : p.fd 6 = some D__law_words) (h7 : p.fd 7 = some D_law)
    (g0 : p.gv 0 = .str (mk alpha)) (g1 : p.gv 1 = .int 6) (ns : List Int) (hl : ns.length ≤ 63) : ∃ m, callAt p 8 7 [.p (.scr ns)] [] = .ok (.p (.bl true)) m := by
  rw [callAt_ok (k := 7) h7]
  exact law_1 (bag_ok (k := 6) h2) (pull_ok (k := 6) h3) (ofl_ok (k := 5) h3 h4) (same_ok h5 3 4) (words_ok (k := 4) h3 h4 h6) (name_ok (k := 6) h1 g0 g1) (num_ok (k := 6) h0) ns hl
end
end Law
end

namespace Law
open Dn PySem PySem.Spec PyProof.Rows L2
noncomputable section
def n0 : List Str := ["value"]
def p0 : List Str := ["value"]
def n1 : List Str := ["value", "letter"]
def p1 : List Str := ["value"]
def n2 : List Str := ["_law_script"]
def p2 : List Str := ["_law_script"]
def n3 : List Str := ["_law_bag_here", "_law_many", "_law_seed", "_law_step", "_law_cell", "_law_digit", "_law_small"]
def p3 : List Str := ["_law_bag_here", "_law_many"]
def n4 : List Str := ["_law_bag_here", "_law_rows_z"]
def p4 : List Str := ["_law_bag_here", "_law_rows_z"]
def n5 : List Str := ["_law_found", "_law_due", "_law_a", "_law_b"]
def p5 : List Str := ["_law_found", "_law_due"]
def n6 : List Str := ["_law_bag_here", "_law_many", "_law_letters", "_law_stem", "_law_at", "_law_first", "_law_k"]
def p6 : List Str := ["_law_bag_here", "_law_many"]
def n7 : List Str := ["_law_script", "_law_bag_here", "_law_names", "_law_at", "_law_bent", "_law_long", "_law_odd", "_law_near", "_law_found", "_law_one"]
def p7 : List Str := ["_law_script"]
def fnL : List (Nat × Str) := [(0, "is_number"), (1, "is_name"), (2, "_law_bag"), (3, "_law_pull"), (4, "_law_of"), (5, "_law_same"), (6, "_law_words"), (7, "law")]
def fdL : List (Nat × FD) := [(0, D_is_number), (1, D_is_name), (2, D__law_bag), (3, D__law_pull), (4, D__law_of), (5, D__law_same), (6, D__law_words), (7, D_law)]
def glL : List (Nat × Str) := [(0, "LETTERS"), (1, "MOST_LETTERS")]
def gvL : List (Nat × Dn.P) := [(0, .str "abcdefghijklmnopqrstuvwxyz"), (1, .int 6)]
def kwL : List (Nat × Nat × List Str × List Nat) := [(0, 0, ["value"], [0]), (1, 0, ["value"], [0])]
def kwF (f np : Nat) (ks : List Str) : Option (List Nat) := (kwL.find? fun q => decide (q.1 = f ∧ q.2.1 = np ∧ q.2.2.1 = ks)).map (·.2.2.2)
def tb : Tb := ⟨fun n => fnL.lookup n, fun n => glL.lookup n, fun _ => none, kwF⟩
def pg : Pg := ⟨fun n => fdL.lookup n, fun n => (gvL.lookup n).getD .non⟩
def gn (K : PySem.W.Frag) : Gn := ⟨K, fun _ => 0, fun _ => ⟨#[]⟩, fun _ => false⟩
abbrev prog : Program := PySem.Challenge.pw_keptlaws_k02_names_and_numbers
def top (i : Nat) : Stmt := prog.main.body.getD i (.Pass ⟨0, 0, 0, 0⟩)
theorem c0 : defB tb D_is_number n0 p0 (top 3) = true := by kernel_rfl
theorem c1 : defB tb D_is_name n1 p1 (top 4) = true := by kernel_rfl
theorem c2 : defB tb D__law_bag n2 p2 (top 6) = true := by kernel_rfl
theorem c3 : defB tb D__law_pull n3 p3 (top 7) = true := by kernel_rfl
theorem c4 : defB tb D__law_of n4 p4 (top 8) = true := by kernel_rfl
theorem c5 : defB tb D__law_same n5 p5 (top 9) = true := by kernel_rfl
theorem c6 : defB tb D__law_words n6 p6 (top 10) = true := by kernel_rfl
theorem c7 : defB tb D_law n7 p7 (top 11) = true := by kernel_rfl
def h0 : He.DefD := ⟨("is_number", none), "is_number", "is_number", defArgs (top 3), defBody (top 3), defScope (top 3), [], []⟩
def h1 : He.DefD := ⟨("is_name", none), "is_name", "is_name", defArgs (top 4), defBody (top 4), defScope (top 4), [], []⟩
def h2 : He.DefD := ⟨("_law_bag", none), "_law_bag", "_law_bag", defArgs (top 6), defBody (top 6), defScope (top 6), [], []⟩
def h3 : He.DefD := ⟨("_law_pull", none), "_law_pull", "_law_pull", defArgs (top 7), defBody (top 7), defScope (top 7), [], []⟩
def h4 : He.DefD := ⟨("_law_of", none), "_law_of", "_law_of", defArgs (top 8), defBody (top 8), defScope (top 8), [], []⟩
def h5 : He.DefD := ⟨("_law_same", none), "_law_same", "_law_same", defArgs (top 9), defBody (top 9), defScope (top 9), [], []⟩
def h6 : He.DefD := ⟨("_law_words", none), "_law_words", "_law_words", defArgs (top 10), defBody (top 10), defScope (top 10), [], []⟩
def h7 : He.DefD := ⟨("law", none), "law", "law", defArgs (top 11), defBody (top 11), defScope (top 11), [], []⟩
def fnl : List He.DefD := [h0, h1, h2, h3, h4, h5, h6, h7]
def fa : List He.Fa := [.glo "is_number", .glo "is_name", .glo "_law_bag", .glo "_law_pull", .glo "_law_of", .glo "_law_same", .glo "_law_words", .glo "law", .free "isinstance", .free "range", .free "zip", .free "len", .free "int", .free "abs", .free "list", .free "tuple", .free "all", .free "any", .free "sum", .free "str", .free "bool", .free "dict", .free "enumerate", .free "sorted", .free "min", .free "max", .free "set", .free "type", .str "LETTERS" "abcdefghijklmnopqrstuvwxyz", .int "MOST_LETTERS" 6]
abbrev R : PySem.W.OpenRow := PySem.W.OpenLaw.row PySem.Challenge.rw_keptlaws_k02_names_and_numbers
abbrev hk : PySem.W.Hook := He.hookD 4 fa fnl
def ob (s : PySem.W.SharedT) : He.AlD := He.obsDG 4 fa fnl (HandSHeadRun.getT s)
theorem ob_eq (s : PySem.W.SharedT) : ob s = hk.obs s.abs := He.obsDG_eq (HandSHeadRun.getT_eq s)
def loose : List Str := ["LETTERS", "MOST_LETTERS", "is_number", "is_name", "_law_bag", "_law_pull", "_law_of", "_law_same", "_law_words"]
theorem run (w : World) : HandSHeadRun.RunEq R (PySem.W.view R.prog [11]) hk ob 880 loose w := by
  intro os
  kernel_rfl
section
variable {w : World} {K : PySem.W.Frag} {h : Heap} {mg : Str → Option Value}
theorem kwAll {f : Nat} {C : Nat → List Str → List Nat → Prop} (hc : ∀ q ∈ kwL, q.1 = f → C q.2.1 q.2.2.1 q.2.2.2) : ∀ np ks pm, tb.kw f np ks = some pm → C np ks pm := by
  intro np ks pm h
  obtain ⟨q, e1, rfl⟩ := Option.map_eq_some_iff.mp h
  have e2 := List.find?_some e1
  obtain ⟨rfl, rfl, rfl⟩ := of_decide_eq_true e2
  exact hc q (List.mem_of_find?_eq_some e1) rfl
theorem f0 (X : K.In h) (G : h.Ns mainGlobals mg) (c : He.SaysD fa fnl K) : ∃ fd, FnK (gn K) tb pg K mg 0 ("is_number" : Str) (He.ga K ("is_number" : Str)) fd p0 := by
  obtain ⟨fd, F⟩ := c.def_ 0 (d := h0) rfl
  refine ⟨fd, mk_fn (N := n0) (st := top 3) (d := D_is_number) F rfl c0 (He.glo_ok X G (c.fact 0 (f := .glo "is_number") rfl)) (FunD.bindsN F fun _ _ _ _ _ _ us hl => match us, hl with | [_], _ => rfl) (kwAll fun q hq e => ?_)⟩
  obtain ⟨oc, od, dV, kV, doc, pm, an, cdv, ct, osl, rfl, lk, hcd, hD, hK⟩ := F.ex
  have dv : dV = .none := by
    rcases hD with ⟨_, z⟩ | ⟨z, _⟩
    · exact z
    · exact absurd rfl z
  subst dv
  simp only [kwL, List.mem_cons, List.not_mem_nil, or_false] at hq
  rcases hq with rfl | rfl
  · exact ⟨rfl, by decide, kbn_of fun us ws h1 h2 => match us, ws, h1, h2 with | [], [_], _, _ => rfl⟩
  · exact absurd e (by decide)
theorem f1 (X : K.In h) (G : h.Ns mainGlobals mg) (c : He.SaysD fa fnl K) : ∃ fd, FnK (gn K) tb pg K mg 1 ("is_name" : Str) (He.ga K ("is_name" : Str)) fd p1 := by
  obtain ⟨fd, F⟩ := c.def_ 1 (d := h1) rfl
  refine ⟨fd, mk_fn (N := n1) (st := top 4) (d := D_is_name) F rfl c1 (He.glo_ok X G (c.fact 1 (f := .glo "is_name") rfl)) (FunD.bindsN F fun _ _ _ _ _ _ us hl => match us, hl with | [_], _ => rfl) (kwAll fun q hq e => ?_)⟩
  obtain ⟨oc, od, dV, kV, doc, pm, an, cdv, ct, osl, rfl, lk, hcd, hD, hK⟩ := F.ex
  have dv : dV = .none := by
    rcases hD with ⟨_, z⟩ | ⟨z, _⟩
    · exact z
    · exact absurd rfl z
  subst dv
  simp only [kwL, List.mem_cons, List.not_mem_nil, or_false] at hq
  rcases hq with rfl | rfl
  · exact absurd e (by decide)
  · exact ⟨rfl, by decide, kbn_of fun us ws h1 h2 => match us, ws, h1, h2 with | [], [_], _, _ => rfl⟩
theorem f2 (X : K.In h) (G : h.Ns mainGlobals mg) (c : He.SaysD fa fnl K) : ∃ fd, FnK (gn K) tb pg K mg 2 ("_law_bag" : Str) (He.ga K ("_law_bag" : Str)) fd p2 := by
  obtain ⟨fd, F⟩ := c.def_ 2 (d := h2) rfl
  refine ⟨fd, mk_fn (N := n2) (st := top 6) (d := D__law_bag) F rfl c2 (He.glo_ok X G (c.fact 2 (f := .glo "_law_bag") rfl)) (FunD.bindsN F fun _ _ _ _ _ _ us hl => match us, hl with | [_], _ => rfl) (kwAll fun q hq e => ?_)⟩
  obtain ⟨oc, od, dV, kV, doc, pm, an, cdv, ct, osl, rfl, lk, hcd, hD, hK⟩ := F.ex
  have dv : dV = .none := by
    rcases hD with ⟨_, z⟩ | ⟨z, _⟩
    · exact z
    · exact absurd rfl z
  subst dv
  simp only [kwL, List.mem_cons, List.not_mem_nil, or_false] at hq
  rcases hq with rfl | rfl
  · exact absurd e (by decide)
  · exact absurd e (by decide)
theorem f3 (X : K.In h) (G : h.Ns mainGlobals mg) (c : He.SaysD fa fnl K) : ∃ fd, FnK (gn K) tb pg K mg 3 ("_law_pull" : Str) (He.ga K ("_law_pull" : Str)) fd p3 := by
  obtain ⟨fd, F⟩ := c.def_ 3 (d := h3) rfl
  refine ⟨fd, mk_fn (N := n3) (st := top 7) (d := D__law_pull) F rfl c3 (He.glo_ok X G (c.fact 3 (f := .glo "_law_pull") rfl)) (FunD.bindsN F fun _ _ _ _ _ _ us hl => match us, hl with | [_, _], _ => rfl) (kwAll fun q hq e => ?_)⟩
  obtain ⟨oc, od, dV, kV, doc, pm, an, cdv, ct, osl, rfl, lk, hcd, hD, hK⟩ := F.ex
  have dv : dV = .none := by
    rcases hD with ⟨_, z⟩ | ⟨z, _⟩
    · exact z
    · exact absurd rfl z
  subst dv
  simp only [kwL, List.mem_cons, List.not_mem_nil, or_false] at hq
  rcases hq with rfl | rfl
  · exact absurd e (by decide)
  · exact absurd e (by decide)
theorem f4 (X : K.In h) (G : h.Ns mainGlobals mg) (c : He.SaysD fa fnl K) : ∃ fd, FnK (gn K) tb pg K mg 4 ("_law_of" : Str) (He.ga K ("_law_of" : Str)) fd p4 := by
  obtain ⟨fd, F⟩ := c.def_ 4 (d := h4) rfl
  refine ⟨fd, mk_fn (N := n4) (st := top 8) (d := D__law_of) F rfl c4 (He.glo_ok X G (c.fact 4 (f := .glo "_law_of") rfl)) (FunD.bindsN F fun _ _ _ _ _ _ us hl => match us, hl with | [_, _], _ => rfl) (kwAll fun q hq e => ?_)⟩
  obtain ⟨oc, od, dV, kV, doc, pm, an, cdv, ct, osl, rfl, lk, hcd, hD, hK⟩ := F.ex
  have dv : dV = .none := by
    rcases hD with ⟨_, z⟩ | ⟨z, _⟩
    · exact z
    · exact absurd rfl z
  subst dv
  simp only [kwL, List.mem_cons, List.not_mem_nil, or_false] at hq
  rcases hq with rfl | rfl
  · exact absurd e (by decide)
  · exact absurd e (by decide)
theorem f5 (X : K.In h) (G : h.Ns mainGlobals mg) (c : He.SaysD fa fnl K) : ∃ fd, FnK (gn K) tb pg K mg 5 ("_law_same" : Str) (He.ga K ("_law_same" : Str)) fd p5 := by
  obtain ⟨fd, F⟩ := c.def_ 5 (d := h5) rfl
  refine ⟨fd, mk_fn (N := n5) (st := top 9) (d := D__law_same) F rfl c5 (He.glo_ok X G (c.fact 5 (f := .glo "_law_same") rfl)) (FunD.bindsN F fun _ _ _ _ _ _ us hl => match us, hl with | [_, _], _ => rfl) (kwAll fun q hq e => ?_)⟩
  obtain ⟨oc, od, dV, kV, doc, pm, an, cdv, ct, osl, rfl, lk, hcd, hD, hK⟩ := F.ex
  have dv : dV = .none := by
    rcases hD with ⟨_, z⟩ | ⟨z, _⟩
    · exact z
    · exact absurd rfl z
  subst dv
  simp only [kwL, List.mem_cons, List.not_mem_nil, or_false] at hq
  rcases hq with rfl | rfl
  · exact absurd e (by decide)
  · exact absurd e (by decide)
theorem f6 (X : K.In h) (G : h.Ns mainGlobals mg) (c : He.SaysD fa fnl K) : ∃ fd, FnK (gn K) tb pg K mg 6 ("_law_words" : Str) (He.ga K ("_law_words" : Str)) fd p6 := by
  obtain ⟨fd, F⟩ := c.def_ 6 (d := h6) rfl
  refine ⟨fd, mk_fn (N := n6) (st := top 10) (d := D__law_words) F rfl c6 (He.glo_ok X G (c.fact 6 (f := .glo "_law_words") rfl)) (FunD.bindsN F fun _ _ _ _ _ _ us hl => match us, hl with | [_, _], _ => rfl) (kwAll fun q hq e => ?_)⟩
  obtain ⟨oc, od, dV, kV, doc, pm, an, cdv, ct, osl, rfl, lk, hcd, hD, hK⟩ := F.ex
  have dv : dV = .none := by
    rcases hD with ⟨_, z⟩ | ⟨z, _⟩
    · exact z
    · exact absurd rfl z
  subst dv
  simp only [kwL, List.mem_cons, List.not_mem_nil, or_false] at hq
  rcases hq with rfl | rfl
  · exact absurd e (by decide)
  · exact absurd e (by decide)
theorem f7 (X : K.In h) (G : h.Ns mainGlobals mg) (c : He.SaysD fa fnl K) : ∃ fd, FnK (gn K) tb pg K mg 7 ("law" : Str) (He.ga K ("law" : Str)) fd p7 ∧ ∀ (s : Shared) (u : Value), BindsTo s fd ⟨[u], []⟩ [(("_law_script" : Str), u)] := by
  obtain ⟨fd, F⟩ := c.def_ 7 (d := h7) rfl
  have bb : ∀ (s : Shared) (u : Value), BindsTo s fd ⟨[u], []⟩ [(("_law_script" : Str), u)] := fun s u => FunD.bindsA (ps := p7) F (fun _ _ _ _ _ _ us hl => match us, hl with | [_], _ => rfl) s [u] rfl
  refine ⟨fd, And.intro (mk_fn (N := n7) (st := top 11) (d := D_law) F rfl c7 (He.glo_ok X G (c.fact 7 (f := .glo "law") rfl)) (FunD.bindsN F fun _ _ _ _ _ _ us hl => match us, hl with | [_], _ => rfl) (kwAll fun q hq e => ?_)) bb⟩
  obtain ⟨oc, od, dV, kV, doc, pm, an, cdv, ct, osl, rfl, lk, hcd, hD, hK⟩ := F.ex
  have dv : dV = .none := by
    rcases hD with ⟨_, z⟩ | ⟨z, _⟩
    · exact z
    · exact absurd rfl z
  subst dv
  simp only [kwL, List.mem_cons, List.not_mem_nil, or_false] at hq
  rcases hq with rfl | rfl
  · exact absurd e (by decide)
  · exact absurd e (by decide)
theorem baseOk (X : K.In h) (G : h.Ns mainGlobals mg) (c : He.SaysD fa fnl K) : Base (gn K) tb pg mg where
  kf := ⟨(fun _ z => nomatch z), (fun _ z => nomatch z), (fun _ z => nomatch z), (fun _ z => nomatch z), (fun _ z => nomatch z), (fun _ z => nomatch z), (fun _ _ z => nomatch z), (fun _ z => nomatch z)⟩
  bl := fun x hx => by
    simp only [List.mem_cons, List.not_mem_nil, or_false] at hx
    rcases hx with rfl | rfl | rfl | rfl | rfl | rfl | rfl | rfl | rfl | rfl | rfl | rfl | rfl | rfl | rfl | rfl | rfl | rfl | rfl | rfl
    · exact He.free_ok X G (c.fact 8 (f := .free "isinstance") rfl)
    · exact He.free_ok X G (c.fact 9 (f := .free "range") rfl)
    · exact He.free_ok X G (c.fact 10 (f := .free "zip") rfl)
    · exact He.free_ok X G (c.fact 11 (f := .free "len") rfl)
    · exact He.free_ok X G (c.fact 12 (f := .free "int") rfl)
    · exact He.free_ok X G (c.fact 13 (f := .free "abs") rfl)
    · exact He.free_ok X G (c.fact 14 (f := .free "list") rfl)
    · exact He.free_ok X G (c.fact 15 (f := .free "tuple") rfl)
    · exact He.free_ok X G (c.fact 16 (f := .free "all") rfl)
    · exact He.free_ok X G (c.fact 17 (f := .free "any") rfl)
    · exact He.free_ok X G (c.fact 18 (f := .free "sum") rfl)
    · exact He.free_ok X G (c.fact 19 (f := .free "str") rfl)
    · exact He.free_ok X G (c.fact 20 (f := .free "bool") rfl)
    · exact He.free_ok X G (c.fact 21 (f := .free "dict") rfl)
    · exact He.free_ok X G (c.fact 22 (f := .free "enumerate") rfl)
    · exact He.free_ok X G (c.fact 23 (f := .free "sorted") rfl)
    · exact He.free_ok X G (c.fact 24 (f := .free "min") rfl)
    · exact He.free_ok X G (c.fact 25 (f := .free "max") rfl)
    · exact He.free_ok X G (c.fact 26 (f := .free "set") rfl)
    · exact He.free_ok X G (c.fact 27 (f := .free "type") rfl)
  gl := fun n x hx => by
    have hx := mem_lk (l := glL) hx
    simp only [glL, List.mem_cons, List.not_mem_nil, or_false, Prod.mk.injEq] at hx
    rcases hx with ⟨rfl, rfl⟩ | ⟨rfl, rfl⟩
    · obtain ⟨t, e⟩ := He.str_ok X G (c.fact 28 (f := .str "LETTERS" "abcdefghijklmnopqrstuvwxyz") rfl)
      exact ⟨.str "abcdefghijklmnopqrstuvwxyz", _, e, ⟨t, rfl⟩, fun F => RP.str _⟩
    · obtain ⟨t, e⟩ := He.int_ok X G (c.fact 29 (f := .int "MOST_LETTERS" 6) rfl)
      exact ⟨.int 6, _, e, ⟨t, rfl⟩, fun F => RP.int _⟩
  cn := fun n x hx => nomatch hx
  fn := fun f x hx => by
    have hx := mem_lk (l := fnL) hx
    simp only [fnL, List.mem_cons, List.not_mem_nil, or_false, Prod.mk.injEq] at hx
    rcases hx with ⟨rfl, rfl⟩ | ⟨rfl, rfl⟩ | ⟨rfl, rfl⟩ | ⟨rfl, rfl⟩ | ⟨rfl, rfl⟩ | ⟨rfl, rfl⟩ | ⟨rfl, rfl⟩ | ⟨rfl, rfl⟩
    · obtain ⟨fd, k⟩ := f0 X G c
      exact ⟨_, fd, _, k⟩
    · obtain ⟨fd, k⟩ := f1 X G c
      exact ⟨_, fd, _, k⟩
    · obtain ⟨fd, k⟩ := f2 X G c
      exact ⟨_, fd, _, k⟩
    · obtain ⟨fd, k⟩ := f3 X G c
      exact ⟨_, fd, _, k⟩
    · obtain ⟨fd, k⟩ := f4 X G c
      exact ⟨_, fd, _, k⟩
    · obtain ⟨fd, k⟩ := f5 X G c
      exact ⟨_, fd, _, k⟩
    · obtain ⟨fd, k⟩ := f6 X G c
      exact ⟨_, fd, _, k⟩
    · obtain ⟨fd, k, _⟩ := f7 X G c
      exact ⟨_, fd, _, k⟩
end
theorem law_ok (lv : Nat) (hr : Room (lv + 2) callerA) (pure_ : ∀ ns : List Int, ns.length ≤ 63 → (∀ k ∈ ns, Builtin.Int.intBits k ≤ 1048576) → ∃ m, callAt pg lv 7 [.p (.scr ns)] [] = .ok (.p (.bl true)) m) : PySem.Challenge.rw_keptlaws_k02_names_and_numbers.Holds := by
  open PySem.W PySem.Calls in
  w_on; o_law
  refine HandSHeadRun.head_any (r := PySem.W.OpenLaw.row PySem.Challenge.rw_keptlaws_k02_names_and_numbers) (q := PySem.W.view (PySem.W.OpenLaw.row PySem.Challenge.rw_keptlaws_k02_names_and_numbers).prog [11]) (H := hk) (ob := ob) (M := 880) (loose := loose) (d := HandSHeadRun.topDef (PySem.W.OpenLaw.row PySem.Challenge.rw_keptlaws_k02_names_and_numbers).prog 11) (kwd := []) ob_eq
    (by kernel_rfl) (fun s => by kernel_rfl) run (by kernel_rfl) (by kernel_rfl) (by kernel_rfl) (by rfl) (by first | assumption | decide +kernel) (by decide +kernel) ⟨rfl, rfl, rfl, rfl, rfl, by decide +kernel⟩ ?hw ?hc
  case hw => w_witness2
  case hc =>
    refine dn_walk (l := PySem.Challenge.rw_keptlaws_k02_names_and_numbers) (n := 63) (k := lv + 2) (x := "_law_script") rfl (by decide) (by kernel_rfl) hr ?F
    intro w mg fa0 h Y G hmg0
    obtain ⟨K, X, c⟩ := Y
    have hmg : mg ("law" : Str) = some (.ref fa0) := by
      have e : (HandSHeadRun.topDef (PySem.W.OpenLaw.row PySem.Challenge.rw_keptlaws_k02_names_and_numbers).prog 11).name = ("law" : Str) := by kernel_rfl
      rw [← e]
      exact hmg0
    obtain ⟨fd, k, bb⟩ := f7 X G c
    have e := hmg.symm.trans k.at_
    cases e
    refine ⟨K, fd, spL (gn K) pg lv 7 1, X, bb, fun H a ns hl hb hS => sp_law (pure_ ns hl hb) hS, fun base KX GX => ?_⟩
    exact all_fn (baseOk X G c) lv 7 "law" rfl _ _ _ k
end
end Law
theorem PySem.Challenge.cw_keptlaws_k02_names_and_numbers_holds : PySem.Challenge.rw_keptlaws_k02_names_and_numbers.Holds :=
  Law.law_ok 8 ⟨rfl, by decide, by decide⟩ fun ns hl _ => Law.law_pure rfl rfl rfl rfl rfl rfl rfl rfl (by rw [← Dn.alpha_str]; rfl) rfl ns hl
