import PyProof.Rows.All
import Wide.All
import OpenK.AllK
import Wide.FinOn
import HandS.ForMost
import HandS.Exc
import HandS.ExcOwn
import HandS.WordsExc
import HandS.Star
import HandS.IsInst
import HandS.Wide
import HandS.NoneIn
import HandS.Deep
import HandS.Zip
import HandS.TupAny
import PyProof.FitsInt
import PyProof.StrLawsChain
import HandS.WordsDict
import HandS.More
import PyProof.InstNe
import HandS.Property
import HandS.ClsMeth
import HandS.Defaults
import KE.KStar
import PyProof.EnumMake
import PyProof.Draws
import HandS.HeadWalk
import HandS.FStr
import HandS.Style
import HandS.DictComp
import HandS.Words
import HandS.Ends
import HandS.Head0
import HandS.Head1
import HandS.Head2
import HandS.HeadEnd
import HandS.HeadHook1
import HandS.HeadHook2
import HandS.HeadNt
import PySem.Challenge.RW_keptlaws_k05_whole_texts_of_signatures
set_option Elab.async false
set_option linter.all false
set_option maxRecDepth 100000
set_option maxHeartbeats 0
/-! Dn, part A: plain data, the store, results. -/
namespace Dn
open PySem L2

/-- pure data: no object of it is ever changed; dct true: a dict whose keys are tuples; ktp: a tuple of the module's top; scr: the law's script -/
inductive P where
  | non | bl (b : Bool) | int (i : Int) | str (s : Str)
  | tup (l : List P) | lst (l : List P) | dct (t : Bool) (l : List (P × P)) | ins (c : Nat) (l : List (Nat × P)) | ktp (l : List P) | scr (l : List Int) | cls (c : Nat)
/-- a value: pure data, or an object of the store -/
inductive D where | p (x : P) | ref (n : Nat)
/-- an object of the store; scr: the law's script -/
inductive MO where | lst (l : List D) | dct (l : List (P × D)) | dcT (l : List (P × D)) | ins (c : Nat) (l : List (Nat × D)) | scr (l : List Int)
abbrev Mem := List (Option MO)
/-- a raised exception: its class, its fields -/
structure Ex where (c : Nat) (l : List (Nat × P))
inductive R (α : Type) where | ok (a : α) (m : Mem) | ex (x : Ex) (m : Mem) | no
def R.bind {α β : Type} (r : R α) (f : α → Mem → R β) : R β := match r with | .ok a m => f a m | .ex x m => .ex x m | .no => .no
@[simp] theorem R.bind_ok {α β : Type} (a : α) (m : Mem) (f : α → Mem → R β) : (R.ok a m).bind f = f a m := Eq.trans rfl rfl
@[simp] theorem R.bind_ex {α β : Type} (x : Ex) (m : Mem) (f : α → Mem → R β) : (R.ex x m : R α).bind f = .ex x m := Eq.trans rfl rfl
@[simp] theorem R.bind_no {α β : Type} (f : α → Mem → R β) : (R.no : R α).bind f = .no := Eq.trans rfl rfl

def Mem.get (m : Mem) (n : Nat) : Option MO := (m[n]?).join
def Mem.new (m : Mem) (o : MO) : Mem := m ++ [some o]
def Mem.put (m : Mem) (n : Nat) (o : MO) : Mem := m.set n (some o)
def Mem.kill (m : Mem) (n : Nat) : Mem := m.set n none

def D.flat : D → Bool
  | .p _ => true
  | .ref _ => false
/-- no reference in it -/
def MO.flat : MO → Bool
  | .lst l => l.all D.flat
  | .dct l => l.all fun x => x.2.flat
  | .dcT l => l.all fun x => x.2.flat
  | .ins _ l => l.all fun x => x.2.flat
  | .scr _ => true
/-- m' has m's objects as they are, or objects without references -/
def Tame (m m' : Mem) : Prop := m.length ≤ m'.length ∧ ∀ n, n < m.length → m'[n]? = m[n]? ∨ ∃ o, m'[n]? = some o ∧ ∀ q, o = some q → q.flat = true
open Classical in
/-- a pure result: what was laid on the way is dropped -/
noncomputable def trimR (m : Mem) : R D → R D
  | .ok (.p x) m' => if Tame m m' then .ok (.p x) (m'.take m.length) else .ok (.p x) m'
  | .ex x m' => if Tame m m' then .ex x (m'.take m.length) else .ex x m'
  | r => r

open Classical in
/-- a statement's value is dropped -/
noncomputable def trimU (m : Mem) : R D → R D
  | .ok d m' => if Tame m m' then .ok (.p .non) (m'.take m.length) else .ok (.p .non) m'
  | .ex x m' => if Tame m m' then .ex x (m'.take m.length) else .ex x m'
  | .no => .no

def keyP : P → Option Key
  | .int i => some (.inl i)
  | .str s => some (.inr s)
  | _ => none
def keysP : List P → Option (List Key)
  | [] => some []
  | x :: l => match keyP x, keysP l with
    | some k, some ks => some (k :: ks)
    | _, _ => none
def keyT : P → Option (List Key)
  | .tup l => keysP l
  | _ => none

/-- a key's texts are of a right length -/
def kOk : P → Prop
  | .str s => s.length ≤ sizeLine
  | .tup l => l.length ≤ sizeLine ∧ ∀ s, P.str s ∈ l → s.length ≤ sizeLine
  | _ => True
/-- where the classes stand, what the attributes are called, which classes there are -/
structure Gn where
  K : PySem.W.Frag
  cA : Nat → Addr
  fN : Nat → Str
  cs : Nat → Bool

mutual
inductive RP (g : Gn) (H : Hp) : P → V → Prop
  | non : RP g H .non .non
  | bl (b : Bool) : RP g H (.bl b) (.bl b)
  | int (i : Int) : RP g H (.int i) (.int i)
  | str (s : Str) : s.length ≤ sizeLine → RP g H (.str s) (.str s)
  | tup {a : Addr} {vs : List V} {l : List P} : l.length ≤ sizeLine → H a = some (.tup vs) → RPs g H l vs → RP g H (.tup l) (.ref a)
  | lst {a : Addr} {vs : List V} {l : List P} : l.length ≤ sizeLine → H a = some (.lst vs) → RPs g H l vs → RP g H (.lst l) (.ref a)
  | dK {a : Addr} {kvs : List (Key × V)} {l : List (P × P)} : l.length ≤ sizeLine → Rd H a (.dK kvs) → RPk g H l kvs → RP g H (.dct false l) (.ref a)
  | dT {a : Addr} {kvs : List (List Key × V)} {l : List (P × P)} : l.length ≤ sizeLine → Rd H a (.dT kvs) → RPt g H l kvs → RP g H (.dct true l) (.ref a)
  | ins {a dx : Addr} {fs : List (Str × V)} {c : Nat} {l : List (Nat × P)} : g.cs c = true → H a = some (.ins (g.cA c) dx fs) → RPf g H l fs → RP g H (.ins c l) (.ref a)
  | ktp {a : Addr} {vs : List V} {l : List P} : l.length ≤ sizeLine → (∀ H', SqT g.K H' a vs) → RPs g H l vs → RP g H (.ktp l) (.ref a)
  | cls {c : Nat} : g.cs c = true → RP g H (.cls c) (.ref (g.cA c))
  | scr {a : Addr} {l : List Int} : l.length ≤ sizeLine → SqL g.K H a (l.map V.int) → RP g H (.scr l) (.ref a)
inductive RPs (g : Gn) (H : Hp) : List P → List V → Prop
  | nil : RPs g H [] []
  | cons {x : P} {v : V} {l : List P} {vs : List V} : RP g H x v → RPs g H l vs → RPs g H (x :: l) (v :: vs)
inductive RPk (g : Gn) (H : Hp) : List (P × P) → List (Key × V) → Prop
  | nil : RPk g H [] []
  | cons {k x : P} {κ : Key} {v : V} {l : List (P × P)} {vs : List (Key × V)} : keyP k = some κ → kOk k → RP g H x v → RPk g H l vs → RPk g H ((k, x) :: l) ((κ, v) :: vs)
inductive RPt (g : Gn) (H : Hp) : List (P × P) → List (List Key × V) → Prop
  | nil : RPt g H [] []
  | cons {k x : P} {κ : List Key} {v : V} {l : List (P × P)} {vs : List (List Key × V)} : keyT k = some κ → kOk k → RP g H x v → RPt g H l vs → RPt g H ((k, x) :: l) ((κ, v) :: vs)
inductive RPf (g : Gn) (H : Hp) : List (Nat × P) → List (Str × V) → Prop
  | nil : RPf g H [] []
  | cons {n : Nat} {x : P} {v : V} {l : List (Nat × P)} {vs : List (Str × V)} : RP g H x v → RPf g H l vs → RPf g H ((n, x) :: l) ((g.fN n, v) :: vs)
end

/-- known of F, it stands in H too (a dict may be locked) -/
def Sub (F H : Hp) : Prop := ∀ a o, F a = some o → H a = some o ∨ (((∃ k, o = .dK k) ∨ ∃ k, o = .dT k) ∧ ∃ od, H a = some (.frz od o))
theorem Sub.of {F H : Hp} (h : ∀ a o, F a = some o → H a = some o) : Sub F H := fun a o e => .inl (h a o e)
theorem Sub.rd {F H : Hp} (s : Sub F H) {a : Addr} {u : HO} (hu : (∃ k, u = .dK k) ∨ ∃ k, u = .dT k) (h : Rd F a u) : Rd H a u := by
  rcases h with h | ⟨o, h⟩
  · rcases s a u h with h | ⟨_, od, h⟩
    · exact .inl h
    · exact .inr ⟨od, h⟩
  · rcases s a _ h with h | ⟨z, _⟩
    · exact .inr ⟨o, h⟩
    · rcases z with ⟨k, z⟩ | ⟨k, z⟩ <;> cases z
theorem Sub.tup {F H : Hp} (s : Sub F H) {a : Addr} {xs : List V} (h : F a = some (.tup xs)) : H a = some (.tup xs) := by
  rcases s a _ h with h | ⟨z, _⟩
  · exact h
  · rcases z with ⟨k, z⟩ | ⟨k, z⟩ <;> cases z
theorem Sub.lst {F H : Hp} (s : Sub F H) {a : Addr} {xs : List V} (h : F a = some (.lst xs)) : H a = some (.lst xs) := by
  rcases s a _ h with h | ⟨z, _⟩
  · exact h
  · rcases z with ⟨k, z⟩ | ⟨k, z⟩ <;> cases z
theorem Sub.seq {K : PySem.W.Frag} {F H : Hp} (s : Sub F H) {a : Addr} {xs : List V} (h : SqL K F a xs) : SqL K H a xs := by
  rcases h with h | h
  · rcases h with h | ⟨o, h⟩
    · exact .inl (.inl (s.lst h))
    · rcases s a _ h with h | ⟨z, _⟩
      · exact .inl (.inr ⟨o, h⟩)
      · rcases z with ⟨k, z⟩ | ⟨k, z⟩ <;> cases z
  · exact .inr h
theorem Sub.ins {F H : Hp} (s : Sub F H) {a C dx : Addr} {fs : List (Str × V)} (h : F a = some (.ins C dx fs)) : H a = some (.ins C dx fs) := by
  rcases s a _ h with h | ⟨z, _⟩
  · exact h
  · rcases z with ⟨k, z⟩ | ⟨k, z⟩ <;> cases z

section
variable {g : Gn} {F H : Hp}
mutual
theorem RP.up (s : Sub F H) {x : P} {v : V} : RP g F x v → RP g H x v
  | .non => .non
  | .bl b => .bl b
  | .int i => .int i
  | .str z n => .str z n
  | .tup n h t => .tup n (s.tup h) (RPs.up s t)
  | .lst n h t => .lst n (s.lst h) (RPs.up s t)
  | .dK n h t => .dK n (s.rd (.inl ⟨_, rfl⟩) h) (RPk.up s t)
  | .dT n h t => .dT n (s.rd (.inr ⟨_, rfl⟩) h) (RPt.up s t)
  | .ins z h t => .ins z (s.ins h) (RPf.up s t)
  | .ktp n h t => .ktp n h (RPs.up s t)
  | .cls h => .cls h
  | .scr n h => .scr n (s.seq h)
theorem RPs.up (s : Sub F H) {l : List P} {vs : List V} : RPs g F l vs → RPs g H l vs
  | .nil => .nil
  | .cons h t => .cons (RP.up s h) (RPs.up s t)
theorem RPk.up (s : Sub F H) {l : List (P × P)} {vs : List (Key × V)} : RPk g F l vs → RPk g H l vs
  | .nil => .nil
  | .cons e z h t => .cons e z (RP.up s h) (RPk.up s t)
theorem RPt.up (s : Sub F H) {l : List (P × P)} {vs : List (List Key × V)} : RPt g F l vs → RPt g H l vs
  | .nil => .nil
  | .cons e z h t => .cons e z (RP.up s h) (RPt.up s t)
theorem RPf.up (s : Sub F H) {l : List (Nat × P)} {vs : List (Str × V)} : RPf g F l vs → RPf g H l vs
  | .nil => .nil
  | .cons h t => .cons (RP.up s h) (RPf.up s t)
end
end

mutual
def P.py : P → PyData
  | .non => .none
  | .bl b => .bool b
  | .int i => .int i
  | .str s => .str s
  | .tup l => .tuple (pyL l)
  | .lst l => .list (pyL l)
  | .dct _ _ => .dict []
  | .ins _ _ => .dict []
  | .ktp _ => .dict []
  | .scr _ => .dict []
  | .cls _ => .dict []
def pyL : List P → List PyData
  | [] => []
  | x :: l => x.py :: pyL l
end
mutual
/-- data that == compares by itself -/
def P.dat : P → Bool
  | .non => true
  | .bl _ => true
  | .int _ => true
  | .str _ => true
  | .tup l => datL l
  | .lst l => datL l
  | .dct _ _ => false
  | .ins _ _ => false
  | .ktp _ => false
  | .scr _ => false
  | .cls _ => false
def datL : List P → Bool
  | [] => true
  | x :: l => x.dat && datL l
end
end Dn

/-! Dn, part B: the store as it lies in the heap; a step. -/
namespace Dn
open PySem L2

abbrev Rho := Nat → Addr
/-- m has n -/
def Live (m : Mem) (n : Nat) : Prop := ∃ o, m[n]? = some (some o)

def RD (g : Gn) (ρ : Rho) (F : Hp) (k : Nat) : D → V → Prop
  | .p x, v => RP g F x v
  | .ref n, v => n < k ∧ v = .ref (ρ n)
def RDs (g : Gn) (ρ : Rho) (F : Hp) (k : Nat) : List D → List V → Prop
  | [], [] => True
  | d :: l, v :: vs => RD g ρ F k d v ∧ RDs g ρ F k l vs
  | _, _ => False
def RDk (g : Gn) (ρ : Rho) (F : Hp) (k : Nat) : List (P × D) → List (Key × V) → Prop
  | [], [] => True
  | d :: l, v :: vs => ((keyP d.1 = some v.1 ∧ kOk d.1) ∧ RD g ρ F k d.2 v.2) ∧ RDk g ρ F k l vs
  | _, _ => False
def RDt (g : Gn) (ρ : Rho) (F : Hp) (k : Nat) : List (P × D) → List (List Key × V) → Prop
  | [], [] => True
  | d :: l, v :: vs => ((keyT d.1 = some v.1 ∧ kOk d.1) ∧ RD g ρ F k d.2 v.2) ∧ RDt g ρ F k l vs
  | _, _ => False
def RDf (g : Gn) (ρ : Rho) (F : Hp) (k : Nat) : List (Nat × D) → List (Str × V) → Prop
  | [], [] => True
  | d :: l, v :: vs => (v.1 = g.fN d.1 ∧ RD g ρ F k d.2 v.2) ∧ RDf g ρ F k l vs
  | _, _ => False
def RMO (g : Gn) (ρ : Rho) (F : Hp) (k : Nat) : MO → HO → Prop
  | .lst l, .lst vs => l.length ≤ sizeLine ∧ RDs g ρ F k l vs
  | .dct l, .dK vs => l.length ≤ sizeLine ∧ RDk g ρ F k l vs
  | .dcT l, .dT vs => l.length ≤ sizeLine ∧ RDt g ρ F k l vs
  | .ins c l, .ins C _ fs => (l.length ≤ 100 ∧ C = g.cA c ∧ g.cs c = true) ∧ RDf g ρ F k l fs
  | .scr ns, .frz _ (.lst vs) => vs = ns.map V.int
  | _, _ => False
structure MRel (g : Gn) (ρ : Rho) (F : Hp) (m : Mem) (H : Hp) : Prop where
  sub : Sub F H
  mem : ∀ (n : Nat) (o : MO), m[n]? = some (some o) → F (ρ n) = none ∧ ∃ ho, H (ρ n) = some ho ∧ RMO g ρ F m.length o ho
  inj : ∀ n n', Live m n → Live m n' → ρ n = ρ n' → n = n'
/-- from (ρ, F, m, H) on to (ρ', F', m', H') -/
structure Ext (ρ : Rho) (F : Hp) (m : Mem) (H : Hp) (ρ' : Rho) (F' : Hp) (m' : Mem) (H' : Hp) : Prop where
  sub : ∀ a o, F a = some o → F' a = some o
  len : m.length ≤ m'.length
  agr : ∀ n, n < m.length → ρ' n = ρ n
  dead : ∀ n : Nat, m[n]? = some none → m'[n]? = some none
  fresh : ∀ n, m.length ≤ n → Live m' n → H (ρ' n) = none
  frame : ∀ a o, H a = some o → (∀ n, Live m n → ρ n ≠ a) → H' a = some o
  there : ∀ a o, H a = some o → ∃ o', H' a = some o'
  new : ∀ a o, F' a = some o → F a = some o ∨ H a = none ∨ ∃ n, Live m n ∧ ρ n = a

section
variable {g : Gn} {ρ ρ1 ρ2 : Rho} {F F1 F2 : Hp} {m m1 m2 : Mem} {H H1 H2 : Hp}
theorem Live.lt {n : Nat} (h : Live m n) : n < m.length := by
  obtain ⟨o, e⟩ := h
  exact (List.getElem?_eq_some_iff.mp e).1
theorem Ext.refl : Ext ρ F m H ρ F m H :=
  ⟨fun _ _ h => h, Nat.le_refl _, fun _ _ => rfl, fun _ h => h, fun n h l => absurd l.lt (Nat.not_lt.mpr h), fun _ _ h _ => h, fun _ o h => ⟨o, h⟩, fun _ _ h => .inl h⟩
theorem Ext.live (a : Ext ρ F m H ρ1 F1 m1 H1) {n : Nat} (hn : n < m.length) (l : Live m1 n) : Live m n := by
  cases e : m[n]? with
  | none => exact absurd (List.getElem?_eq_none_iff.mp e) (Nat.not_le.mpr hn)
  | some o =>
    cases o with
    | some o => exact ⟨o, e⟩
    | none =>
      obtain ⟨o, e'⟩ := l
      rw [a.dead n e] at e'
      cases e'
theorem Ext.trans (a : Ext ρ F m H ρ1 F1 m1 H1) (b : Ext ρ1 F1 m1 H1 ρ2 F2 m2 H2) : Ext ρ F m H ρ2 F2 m2 H2 where
  sub := fun x o h => b.sub x o (a.sub x o h)
  len := Nat.le_trans a.len b.len
  agr := fun n h => (b.agr n (Nat.lt_of_lt_of_le h a.len)).trans (a.agr n h)
  dead := fun n h => b.dead n (a.dead n h)
  fresh := fun n h l => by
    by_cases hn : n < m1.length
    · rw [b.agr n hn]
      exact a.fresh n h (b.live hn l)
    · cases e : H (ρ2 n) with
      | none => rfl
      | some o =>
        obtain ⟨o', e'⟩ := a.there _ _ e
        rw [b.fresh n (Nat.not_lt.mp hn) l] at e'
        cases e'
  frame := fun x o h hl => b.frame x o (a.frame x o h hl) fun n l e => by
    by_cases hn : n < m.length
    · exact hl n (a.live hn l) (by rw [← a.agr n hn]; exact e)
    · have := a.fresh n (Nat.not_lt.mp hn) l
      rw [e, h] at this
      cases this
  there := fun x o h => by
    obtain ⟨o1, e1⟩ := a.there x o h
    exact b.there x o1 e1
  new := fun x o h => by
    rcases b.new x o h with h | h | ⟨n, l, e⟩
    · exact a.new x o h
    · refine .inr (.inl ?_)
      cases e : H x with
      | none => rfl
      | some o =>
        obtain ⟨o', e'⟩ := a.there _ _ e
        rw [h] at e'
        cases e'
    · by_cases hn : n < m.length
      · exact .inr (.inr ⟨n, a.live hn l, by rw [← a.agr n hn]; exact e⟩)
      · refine .inr (.inl ?_)
        rw [← e]
        exact a.fresh n (Nat.not_lt.mp hn) l
theorem Ext.Sub (a : Ext ρ F m H ρ1 F1 m1 H1) : Sub F F1 := Sub.of a.sub
theorem RD.mono (a : Ext ρ F m H ρ1 F1 m1 H1) {d : D} {v : V} (h : RD g ρ F m.length d v) : RD g ρ1 F1 m1.length d v := by
  cases d with
  | p x => exact RP.up a.Sub h
  | ref n => exact ⟨Nat.lt_of_lt_of_le h.1 a.len, by rw [a.agr n h.1]; exact h.2⟩
theorem RDs.mono (a : Ext ρ F m H ρ1 F1 m1 H1) : ∀ {l : List D} {vs : List V}, RDs g ρ F m.length l vs → RDs g ρ1 F1 m1.length l vs
  | [], [], _ => trivial
  | _ :: _, _ :: _, h => ⟨RD.mono a h.1, RDs.mono a h.2⟩
  | [], _ :: _, h => h.elim
  | _ :: _, [], h => h.elim
theorem RDk.mono (a : Ext ρ F m H ρ1 F1 m1 H1) : ∀ {l : List (P × D)} {vs : List (Key × V)}, RDk g ρ F m.length l vs → RDk g ρ1 F1 m1.length l vs
  | [], [], _ => trivial
  | _ :: _, _ :: _, h => ⟨⟨h.1.1, RD.mono a h.1.2⟩, RDk.mono a h.2⟩
  | [], _ :: _, h => h.elim
  | _ :: _, [], h => h.elim
theorem RDt.mono (a : Ext ρ F m H ρ1 F1 m1 H1) : ∀ {l : List (P × D)} {vs : List (List Key × V)}, RDt g ρ F m.length l vs → RDt g ρ1 F1 m1.length l vs
  | [], [], _ => trivial
  | _ :: _, _ :: _, h => ⟨⟨h.1.1, RD.mono a h.1.2⟩, RDt.mono a h.2⟩
  | [], _ :: _, h => h.elim
  | _ :: _, [], h => h.elim
theorem RDf.mono (a : Ext ρ F m H ρ1 F1 m1 H1) : ∀ {l : List (Nat × D)} {vs : List (Str × V)}, RDf g ρ F m.length l vs → RDf g ρ1 F1 m1.length l vs
  | [], [], _ => trivial
  | _ :: _, _ :: _, h => ⟨⟨h.1.1, RD.mono a h.1.2⟩, RDf.mono a h.2⟩
  | [], _ :: _, h => h.elim
  | _ :: _, [], h => h.elim
theorem RMO.mono (a : Ext ρ F m H ρ1 F1 m1 H1) {o : MO} {ho : HO} (h : RMO g ρ F m.length o ho) : RMO g ρ1 F1 m1.length o ho := by
  cases o with
  | scr ns => cases ho with
    | frz o u => cases u <;> first | exact h | exact (show False from h).elim
    | _ => exact (show False from h).elim
  | _ => cases ho <;> first
    | exact ⟨h.1, RDs.mono a h.2⟩
    | exact ⟨h.1, RDk.mono a h.2⟩
    | exact ⟨h.1, RDt.mono a h.2⟩
    | exact ⟨h.1, RDf.mono a h.2⟩
    | exact (show False from h).elim
theorem RDs.length : ∀ {k : Nat} {l : List D} {vs : List V}, RDs g ρ F k l vs → l.length = vs.length
  | _, [], [], _ => rfl
  | _, _ :: _, _ :: _, h => congrArg Nat.succ (RDs.length h.2)
  | _, [], _ :: _, h => h.elim
  | _, _ :: _, [], h => h.elim
theorem RDs.get {k : Nat} : ∀ {l : List D} {vs : List V} {i : Nat} {d : D}, RDs g ρ F k l vs → l[i]? = some d → ∃ v, vs[i]? = some v ∧ RD g ρ F k d v
  | [], [], _, _, _, e => by simp at e
  | _ :: _, _ :: _, 0, _, h, e => by
    simp at e
    subst e
    exact ⟨_, rfl, h.1⟩
  | _ :: _, _ :: _, i + 1, _, h, e => by
    obtain ⟨v, e1, r⟩ := RDs.get (i := i) h.2 (by simpa using e)
    exact ⟨v, by simpa using e1, r⟩
  | [], _ :: _, _, _, h, _ => h.elim
  | _ :: _, [], _, _, h, _ => h.elim
theorem RDs.append {k : Nat} : ∀ {l l2 : List D} {vs vs2 : List V}, RDs g ρ F k l vs → RDs g ρ F k l2 vs2 → RDs g ρ F k (l ++ l2) (vs ++ vs2)
  | [], _, [], _, _, h => h
  | _ :: _, _, _ :: _, _, h, t => ⟨h.1, RDs.append h.2 t⟩
  | [], _, _ :: _, _, h, _ => h.elim
  | _ :: _, _, [], _, h, _ => h.elim
theorem RDs.take {k : Nat} : ∀ {l : List D} {vs : List V} (n : Nat), RDs g ρ F k l vs → RDs g ρ F k (l.take n) (vs.take n)
  | [], [], n, _ => by simp [RDs]
  | _ :: _, _ :: _, 0, _ => by simp [RDs]
  | _ :: _, _ :: _, n + 1, h => ⟨h.1, RDs.take n h.2⟩
  | [], _ :: _, _, h => h.elim
  | _ :: _, [], _, h => h.elim
theorem RDs.drop {k : Nat} : ∀ {l : List D} {vs : List V} (n : Nat), RDs g ρ F k l vs → RDs g ρ F k (l.drop n) (vs.drop n)
  | [], [], n, _ => by simp [RDs]
  | _ :: _, _ :: _, 0, h => h
  | _ :: _, _ :: _, n + 1, h => RDs.drop n h.2
  | [], _ :: _, _, h => h.elim
  | _ :: _, [], _, h => h.elim
theorem RDs.set {k : Nat} {d : D} {v : V} (hd : RD g ρ F k d v) : ∀ {l : List D} {vs : List V} (n : Nat), RDs g ρ F k l vs → RDs g ρ F k (l.set n d) (vs.set n v)
  | [], [], n, _ => by simp [RDs]
  | _ :: _, _ :: _, 0, h => ⟨hd, h.2⟩
  | _ :: _, _ :: _, n + 1, h => ⟨h.1, RDs.set hd n h.2⟩
  | [], _ :: _, _, h => h.elim
  | _ :: _, [], _, h => h.elim
theorem RDs.rev {k : Nat} : ∀ {l : List D} {vs : List V}, RDs g ρ F k l vs → RDs g ρ F k l.reverse vs.reverse
  | [], [], _ => trivial
  | d :: l, v :: vs, h => by
    rw [List.reverse_cons, List.reverse_cons]
    exact RDs.append (RDs.rev h.2) ⟨h.1, trivial⟩
  | [], _ :: _, h => h.elim
  | _ :: _, [], h => h.elim
theorem RPs.ds {k : Nat} : ∀ {l : List P} {vs : List V}, RPs g F l vs → RDs g ρ F k (l.map D.p) vs
  | _, _, .nil => trivial
  | _, _, .cons h t => ⟨h, RPs.ds t⟩
theorem RPs.of {k : Nat} : ∀ {l : List P} {vs : List V}, RDs g ρ F k (l.map D.p) vs → RPs g F l vs
  | [], [], _ => .nil
  | _ :: _, _ :: _, h => .cons h.1 (RPs.of h.2)
  | [], _ :: _, h => h.elim
  | _ :: _, [], h => h.elim
theorem RPs.length : ∀ {l : List P} {vs : List V}, RPs g F l vs → l.length = vs.length
  | _, _, .nil => rfl
  | _, _, .cons _ t => congrArg Nat.succ (RPs.length t)

/-! ### steps of the store -/
/-- a new address -/
def ext1 (ρ : Rho) (n : Nat) (a : Addr) : Rho := fun k => if k = n then a else ρ k
theorem ext1_self {ρ : Rho} {n : Nat} {a : Addr} : ext1 ρ n a n = a := if_pos rfl
theorem get_new {o : MO} {n : Nat} : (m.new o)[n]? = if n < m.length then m[n]? else if n = m.length then some (some o) else none := by
  unfold Mem.new
  by_cases h : n < m.length
  · rw [if_pos h, List.getElem?_append_left h]
  · rw [if_neg h, List.getElem?_append_right (Nat.not_lt.mp h)]
    by_cases e : n = m.length
    · subst e; simp
    · rw [if_neg e]
      have : 1 ≤ n - m.length := by omega
      exact List.getElem?_eq_none this
/-- an object laid into the store -/
theorem step_new {o : MO} {ho : HO} {a : Addr} (M : MRel g ρ F m H) (ha : H a = none) (r : RMO g ρ F m.length o ho) :
    Ext ρ F m H (ext1 ρ m.length a) F (m.new o) (upd H a ho) ∧ MRel g (ext1 ρ m.length a) F (m.new o) (upd H a ho) ∧ RD g (ext1 ρ m.length a) F (m.new o).length (.ref m.length) (.ref a) := by
  have neF : F a = none := by
    cases e : F a with
    | none => rfl
    | some o => rcases M.sub a o e with h | ⟨_, _, h⟩ <;> (rw [ha] at h; cases h)
  have agr : ∀ n, n < m.length → ext1 ρ m.length a n = ρ n := fun n h => if_neg (Nat.ne_of_lt h)
  have lt : ∀ n o', m[n]? = some (some o') → n < m.length := fun n o' e => (List.getElem?_eq_some_iff.mp e).1
  have nea : ∀ n o', m[n]? = some (some o') → ρ n ≠ a := fun n o' e z => by
    obtain ⟨_, _, h, _⟩ := M.mem n o' e
    rw [z, ha] at h
    cases h
  have E : Ext ρ F m H (ext1 ρ m.length a) F (m.new o) (upd H a ho) := by
    refine ⟨fun _ _ h => h, by simp [Mem.new], agr, fun n h => ?_, fun n h l => ?_, fun b u h _ => ?_, fun b u h => ?_, fun _ _ h => .inl h⟩
    · rw [get_new, if_pos (List.getElem?_eq_some_iff.mp h).1]; exact h
    · obtain ⟨o', e⟩ := l
      rw [get_new, if_neg (Nat.not_lt.mpr h)] at e
      split at e
      · rename_i e1
        subst e1
        rw [ext1_self]; exact ha
      · cases e
    · rw [upd_ne (ne_of_none h ha)]; exact h
    · exact ⟨u, by rw [upd_ne (ne_of_none h ha)]; exact h⟩
  refine ⟨E, ⟨fun b u h => ?_, fun n o' e => ?_, fun n n' l l' e => ?_⟩, by simp [Mem.new], by rw [ext1_self]⟩
  · have : b ≠ a := fun z => by rw [z, neF] at h; cases h
    rw [upd_ne this]
    exact M.sub b u h
  · rw [get_new] at e
    split at e
    · rename_i hn
      obtain ⟨f, ho', h1, h2⟩ := M.mem n o' e
      rw [agr n hn]
      refine ⟨f, ho', ?_, RMO.mono E h2⟩
      rw [upd_ne (nea n o' e)]; exact h1
    · split at e
      · rename_i hn
        cases e
        subst hn
        rw [ext1_self]
        exact ⟨neF, ho, upd_same, RMO.mono E r⟩
      · cases e
  · obtain ⟨o1, e1⟩ := l
    obtain ⟨o2, e2⟩ := l'
    rw [get_new] at e1 e2
    split at e1
    · rename_i h1
      split at e2
      · rename_i h2
        rw [agr n h1, agr n' h2] at e
        exact M.inj n n' ⟨_, e1⟩ ⟨_, e2⟩ e
      · split at e2
        · rename_i h2
          subst h2
          rw [agr n h1] at e
          have : ext1 ρ m.length a m.length = a := if_pos rfl
          rw [this] at e
          exact absurd e (nea n _ e1)
        · cases e2
    · split at e1
      · rename_i h1
        subst h1
        split at e2
        · rename_i h2
          rw [agr n' h2] at e
          have : ext1 ρ m.length a m.length = a := if_pos rfl
          rw [this] at e
          exact absurd e.symm (nea n' _ e2)
        · split at e2
          · rename_i h2; exact h2.symm
          · cases e2
      · cases e1
theorem get_put {o : MO} {n k : Nat} (h : n < m.length) : (m.put n o)[k]? = if k = n then some (some o) else m[k]? := by
  unfold Mem.put
  by_cases e : k = n
  · subst e; rw [if_pos rfl, List.getElem?_set_self h]
  · rw [if_neg e, List.getElem?_set_ne (Ne.symm e)]
theorem get_kill {n k : Nat} (h : n < m.length) : (m.kill n)[k]? = if k = n then some none else m[k]? := by
  unfold Mem.kill
  by_cases e : k = n
  · subst e; rw [if_pos rfl, List.getElem?_set_self h]
  · rw [if_neg e, List.getElem?_set_ne (Ne.symm e)]
/-- an object of the store changed -/
theorem step_put {o o' : MO} {ho : HO} {n : Nat} (M : MRel g ρ F m H) (hn : m[n]? = some (some o)) (r : RMO g ρ F m.length o' ho) :
    Ext ρ F m H ρ F (m.put n o') (upd H (ρ n) ho) ∧ MRel g ρ F (m.put n o') (upd H (ρ n) ho) := by
  have lt : n < m.length := (List.getElem?_eq_some_iff.mp hn).1
  have len : (m.put n o').length = m.length := by simp [Mem.put]
  obtain ⟨fn, h0, hh, _⟩ := M.mem n o hn
  have E : Ext ρ F m H ρ F (m.put n o') (upd H (ρ n) ho) := by
    refine ⟨fun _ _ h => h, Nat.le_of_eq len.symm, fun _ _ => rfl, fun k h => ?_, fun k h l => ?_, fun b u h hl => ?_, fun b u h => ?_, fun _ _ h => .inl h⟩
    · rw [get_put lt, if_neg]
      · exact h
      · rintro rfl; rw [hn] at h; cases h
    · exact absurd l.lt (by rw [len]; exact Nat.not_lt.mpr h)
    · rw [upd_ne (fun z => hl n ⟨o, hn⟩ z.symm)]; exact h
    · by_cases z : b = ρ n
      · subst z; exact ⟨ho, upd_same⟩
      · exact ⟨u, by rw [upd_ne z]; exact h⟩
  refine ⟨E, ⟨fun b u h => ?_, fun k u e => ?_, fun k k' l l' e => ?_⟩⟩
  · have : b ≠ ρ n := fun z => by rw [z, fn] at h; cases h
    rw [upd_ne this]
    exact M.sub b u h
  · rw [get_put lt] at e
    split at e
    · rename_i z
      cases e
      subst z
      exact ⟨fn, ho, upd_same, by rw [len]; exact r⟩
    · rename_i z
      obtain ⟨f, ho', h1, h2⟩ := M.mem k u e
      refine ⟨f, ho', ?_, by rw [len]; exact h2⟩
      rw [upd_ne (fun q => z (M.inj k n ⟨u, e⟩ ⟨o, hn⟩ q))]; exact h1
  · have up : ∀ k, Live (m.put n o') k → Live m k := fun k ⟨u, e⟩ => by
      rw [get_put lt] at e
      split at e
      · rename_i z; subst z; exact ⟨o, hn⟩
      · exact ⟨u, e⟩
    exact M.inj k k' (up k l) (up k' l') e
/-- pure data laid -/
theorem step_pure {ho : HO} {a : Addr} (M : MRel g ρ F m H) (ha : H a = none) : Ext ρ F m H ρ (upd F a ho) m (upd H a ho) ∧ MRel g ρ (upd F a ho) m (upd H a ho) := by
  have neF : F a = none := by
    cases e : F a with
    | none => rfl
    | some o => rcases M.sub a o e with h | ⟨_, _, h⟩ <;> (rw [ha] at h; cases h)
  have E : Ext ρ F m H ρ (upd F a ho) m (upd H a ho) := by
    refine ⟨fun b u h => ?_, Nat.le_refl _, fun _ _ => rfl, fun _ h => h, fun k h l => absurd l.lt (Nat.not_lt.mpr h), fun b u h _ => ?_, fun b u h => ?_, fun b u h => ?_⟩
    · rw [upd_ne (ne_of_none h neF)]; exact h
    · rw [upd_ne (ne_of_none h ha)]; exact h
    · exact ⟨u, by rw [upd_ne (ne_of_none h ha)]; exact h⟩
    · by_cases z : b = a
      · subst z; exact .inr (.inl ha)
      · rw [upd_ne z] at h; exact .inl h
  refine ⟨E, ⟨fun b u h => ?_, fun k u e => ?_, M.inj⟩⟩
  · by_cases z : b = a
    · subst z
      rw [upd_same] at h
      exact .inl (by rw [upd_same]; exact h)
    · rw [upd_ne z] at h ⊢
      exact M.sub b u h
  · obtain ⟨f, ho', h1, h2⟩ := M.mem k u e
    have : ρ k ≠ a := fun z => by rw [z, ha] at h1; cases h1
    exact ⟨by rw [upd_ne this]; exact f, ho', by rw [upd_ne this]; exact h1, RMO.mono E h2⟩
/-- an object of the store becomes pure -/
theorem step_frz {o : MO} {ho : HO} {n : Nat} (M : MRel g ρ F m H) (hn : m[n]? = some (some o)) (hh : H (ρ n) = some ho) : Ext ρ F m H ρ (upd F (ρ n) ho) (m.kill n) H ∧ MRel g ρ (upd F (ρ n) ho) (m.kill n) H := by
  have lt : n < m.length := (List.getElem?_eq_some_iff.mp hn).1
  have len : (m.kill n).length = m.length := by simp [Mem.kill]
  obtain ⟨fn, _⟩ := M.mem n o hn
  have E : Ext ρ F m H ρ (upd F (ρ n) ho) (m.kill n) H := by
    refine ⟨fun b u h => ?_, Nat.le_of_eq len.symm, fun _ _ => rfl, fun k h => ?_, fun k h l => absurd l.lt (by rw [len]; exact Nat.not_lt.mpr h), fun b u h _ => h, fun b u h => ⟨u, h⟩, fun b u h => ?_⟩
    · rw [upd_ne (ne_of_none h fn)]; exact h
    · rw [get_kill lt]
      split
      · rfl
      · exact h
    · by_cases z : b = ρ n
      · subst z; exact .inr (.inr ⟨n, ⟨o, hn⟩, rfl⟩)
      · rw [upd_ne z] at h; exact .inl h
  refine ⟨E, ⟨fun b u h => ?_, fun k u e => ?_, fun k k' l l' e => ?_⟩⟩
  · by_cases z : b = ρ n
    · subst z
      rw [upd_same] at h
      cases h
      exact .inl hh
    · rw [upd_ne z] at h
      exact M.sub b u h
  · rw [get_kill lt] at e
    split at e
    · cases e
    · rename_i z
      obtain ⟨f, ho', h1, h2⟩ := M.mem k u e
      have : ρ k ≠ ρ n := fun q => z (M.inj k n ⟨u, e⟩ ⟨o, hn⟩ q)
      refine ⟨by rw [upd_ne this]; exact f, ho', h1, ?_⟩
      have := RMO.mono E h2
      exact this
  · have up : ∀ k, Live (m.kill n) k → Live m k := fun k ⟨u, e⟩ => by
      rw [get_kill lt] at e
      split at e
      · cases e
      · exact ⟨u, e⟩
    exact M.inj k k' (up k l) (up k' l') e
end


/-! ### trimming -/
section
variable {g : Gn} {ρ ρ1 : Rho} {F F1 : Hp} {m m1 : Mem} {H H1 : Hp}
theorem RD.low {ρ0 : Rho} {F0 : Hp} {k K : Nat} {d : D} {v u : V} (h : RD g ρ F K d v) (h0 : RD g ρ0 F0 k d u) : RD g ρ F k d v := by
  cases d with
  | p x => exact h
  | ref n => exact ⟨h0.1, h.2⟩
theorem RD.flat {k K : Nat} {d : D} {v : V} (h : RD g ρ F K d v) (hf : d.flat = true) : RD g ρ F k d v := by
  cases d with
  | p x => exact h
  | ref n => cases hf
theorem RDs.low {ρ0 : Rho} {F0 : Hp} {k K : Nat} : ∀ {l : List D} {vs us : List V}, RDs g ρ F K l vs → RDs g ρ0 F0 k l us → RDs g ρ F k l vs
  | [], [], _, _, _ => trivial
  | _ :: _, _ :: _, _ :: _, h, h0 => ⟨RD.low h.1 h0.1, RDs.low h.2 h0.2⟩
  | _ :: _, _ :: _, [], _, h0 => h0.elim
  | [], _ :: _, _, h, _ => h.elim
  | _ :: _, [], _, h, _ => h.elim
theorem RDs.flat {k K : Nat} : ∀ {l : List D} {vs : List V}, RDs g ρ F K l vs → l.all D.flat = true → RDs g ρ F k l vs
  | [], [], _, _ => trivial
  | _ :: _, _ :: _, h, f => by
    rw [List.all_cons, Bool.and_eq_true] at f
    exact ⟨RD.flat h.1 f.1, RDs.flat h.2 f.2⟩
  | [], _ :: _, h, _ => h.elim
  | _ :: _, [], h, _ => h.elim
theorem RDk.low {ρ0 : Rho} {F0 : Hp} {k K : Nat} : ∀ {l : List (P × D)} {vs us : List (Key × V)}, RDk g ρ F K l vs → RDk g ρ0 F0 k l us → RDk g ρ F k l vs
  | [], [], _, _, _ => trivial
  | _ :: _, _ :: _, _ :: _, h, h0 => ⟨⟨h.1.1, RD.low h.1.2 h0.1.2⟩, RDk.low h.2 h0.2⟩
  | _ :: _, _ :: _, [], _, h0 => h0.elim
  | [], _ :: _, _, h, _ => h.elim
  | _ :: _, [], _, h, _ => h.elim
theorem RDk.flat {k K : Nat} : ∀ {l : List (P × D)} {vs : List (Key × V)}, RDk g ρ F K l vs → (l.all fun x => x.2.flat) = true → RDk g ρ F k l vs
  | [], [], _, _ => trivial
  | _ :: _, _ :: _, h, f => by
    rw [List.all_cons, Bool.and_eq_true] at f
    exact ⟨⟨h.1.1, RD.flat h.1.2 f.1⟩, RDk.flat h.2 f.2⟩
  | [], _ :: _, h, _ => h.elim
  | _ :: _, [], h, _ => h.elim
theorem RDt.low {ρ0 : Rho} {F0 : Hp} {k K : Nat} : ∀ {l : List (P × D)} {vs us : List (List Key × V)}, RDt g ρ F K l vs → RDt g ρ0 F0 k l us → RDt g ρ F k l vs
  | [], [], _, _, _ => trivial
  | _ :: _, _ :: _, _ :: _, h, h0 => ⟨⟨h.1.1, RD.low h.1.2 h0.1.2⟩, RDt.low h.2 h0.2⟩
  | _ :: _, _ :: _, [], _, h0 => h0.elim
  | [], _ :: _, _, h, _ => h.elim
  | _ :: _, [], _, h, _ => h.elim
theorem RDt.flat {k K : Nat} : ∀ {l : List (P × D)} {vs : List (List Key × V)}, RDt g ρ F K l vs → (l.all fun x => x.2.flat) = true → RDt g ρ F k l vs
  | [], [], _, _ => trivial
  | _ :: _, _ :: _, h, f => by
    rw [List.all_cons, Bool.and_eq_true] at f
    exact ⟨⟨h.1.1, RD.flat h.1.2 f.1⟩, RDt.flat h.2 f.2⟩
  | [], _ :: _, h, _ => h.elim
  | _ :: _, [], h, _ => h.elim
theorem RDf.low {ρ0 : Rho} {F0 : Hp} {k K : Nat} : ∀ {l : List (Nat × D)} {vs us : List (Str × V)}, RDf g ρ F K l vs → RDf g ρ0 F0 k l us → RDf g ρ F k l vs
  | [], [], _, _, _ => trivial
  | _ :: _, _ :: _, _ :: _, h, h0 => ⟨⟨h.1.1, RD.low h.1.2 h0.1.2⟩, RDf.low h.2 h0.2⟩
  | _ :: _, _ :: _, [], _, h0 => h0.elim
  | [], _ :: _, _, h, _ => h.elim
  | _ :: _, [], _, h, _ => h.elim
theorem RDf.flat {k K : Nat} : ∀ {l : List (Nat × D)} {vs : List (Str × V)}, RDf g ρ F K l vs → (l.all fun x => x.2.flat) = true → RDf g ρ F k l vs
  | [], [], _, _ => trivial
  | _ :: _, _ :: _, h, f => by
    rw [List.all_cons, Bool.and_eq_true] at f
    exact ⟨⟨h.1.1, RD.flat h.1.2 f.1⟩, RDf.flat h.2 f.2⟩
  | [], _ :: _, h, _ => h.elim
  | _ :: _, [], h, _ => h.elim
theorem RMO.low {ρ0 : Rho} {F0 : Hp} {k K : Nat} {o : MO} {ho h1 : HO} (h : RMO g ρ F K o ho) (h0 : RMO g ρ0 F0 k o h1) : RMO g ρ F k o ho := by
  cases o with
  | scr ns => cases ho with
    | frz o u => cases u <;> first | exact h | exact (show False from h).elim
    | _ => exact (show False from h).elim
  | lst l => cases ho <;> first | exact (show False from h).elim | (cases h1 <;> first | exact (show False from h0).elim | exact ⟨h.1, RDs.low h.2 h0.2⟩)
  | dct l => cases ho <;> first | exact (show False from h).elim | (cases h1 <;> first | exact (show False from h0).elim | exact ⟨h.1, RDk.low h.2 h0.2⟩)
  | dcT l => cases ho <;> first | exact (show False from h).elim | (cases h1 <;> first | exact (show False from h0).elim | exact ⟨h.1, RDt.low h.2 h0.2⟩)
  | ins c l => cases ho <;> first | exact (show False from h).elim | (cases h1 <;> first | exact (show False from h0).elim | exact ⟨h.1, RDf.low h.2 h0.2⟩)
theorem RMO.flat {k K : Nat} {o : MO} {ho : HO} (h : RMO g ρ F K o ho) (hf : o.flat = true) : RMO g ρ F k o ho := by
  cases o with
  | scr ns => cases ho with
    | frz o u => cases u <;> first | exact h | exact (show False from h).elim
    | _ => exact (show False from h).elim
  | lst l => cases ho <;> first | exact (show False from h).elim | exact ⟨h.1, RDs.flat h.2 hf⟩
  | dct l => cases ho <;> first | exact (show False from h).elim | exact ⟨h.1, RDk.flat h.2 hf⟩
  | dcT l => cases ho <;> first | exact (show False from h).elim | exact ⟨h.1, RDt.flat h.2 hf⟩
  | ins c l => cases ho <;> first | exact (show False from h).elim | exact ⟨h.1, RDf.flat h.2 hf⟩
theorem step_trim (M : MRel g ρ F m H) (E : Ext ρ F m H ρ1 F1 m1 H1) (M1 : MRel g ρ1 F1 m1 H1) (t : Tame m m1) : Ext ρ F m H ρ1 F1 (m1.take m.length) H1 ∧ MRel g ρ1 F1 (m1.take m.length) H1 := by
  have len : (m1.take m.length).length = m.length := by rw [List.length_take]; exact Nat.min_eq_left t.1
  have at_ : ∀ n, n < m.length → (m1.take m.length)[n]? = m1[n]? := fun n h => List.getElem?_take_of_lt h
  have up : ∀ n, Live (m1.take m.length) n → n < m.length ∧ Live m1 n := fun n l => by
    have h := l.lt
    rw [len] at h
    obtain ⟨o, e⟩ := l
    rw [at_ n h] at e
    exact ⟨h, o, e⟩
  refine ⟨⟨E.sub, Nat.le_of_eq len.symm, E.agr, fun n h => ?_, fun n h l => absurd (up n l).1 (Nat.not_lt.mpr h), E.frame, E.there, E.new⟩, ⟨M1.sub, fun n o e => ?_, fun n n' l l' e => M1.inj n n' (up n l).2 (up n' l').2 e⟩⟩
  · rw [at_ n (List.getElem?_eq_some_iff.mp h).1]; exact E.dead n h
  · obtain ⟨hn, _⟩ := up n ⟨o, e⟩
    rw [at_ n hn] at e
    obtain ⟨f, ho, h1, h2⟩ := M1.mem n o e
    refine ⟨f, ho, h1, ?_⟩
    rw [len]
    rcases t.2 n hn with q | ⟨o', q1, q2⟩
    · rw [e] at q
      obtain ⟨_, h0, _, h3⟩ := M.mem n o q.symm
      exact RMO.low h2 h3
    · rw [e] at q1
      cases q1
      exact RMO.flat h2 (q2 o rfl)
end

/-! ### what a result asks -/
/-- an exception as it flies: its class, its own dict -/
def RX (g : Gn) (F : Hp) (x : Ex) (cls : Value) (dd : Option Addr) (H : Hp) : Prop :=
  cls = .ref (g.cA x.c) ∧ ∃ d fs, dd = some d ∧ H d = some (.xd fs) ∧ RPf g F x.l fs
/-- a result r from (ρ, F, m, H): what is wanted of its value, of an exception -/
def Post {α β : Type} (g : Gn) (rel : Rho → Hp → Nat → α → β → Prop) (ρ : Rho) (F : Hp) (m : Mem) (H : Hp) (r : R α) (Q : β → Hp → Prop) (E : XK) : Prop := match r with
  | .ok d m' => ∀ v H' ρ' F', Ext ρ F m H ρ' F' m' H' → MRel g ρ' F' m' H' → rel ρ' F' m'.length d v → Q v H'
  | .ex x m' => ∀ cls dd H' ρ' F', Ext ρ F m H ρ' F' m' H' → MRel g ρ' F' m' H' → RX g F' x cls dd H' → E cls dd H'
  | .no => False
theorem trim_post {g : Gn} {ρ : Rho} {F : Hp} {m : Mem} {H : Hp} {r : R D} {Q : V → Hp → Prop} {E : XK} (M : MRel g ρ F m H) (h : Post g (RD g) ρ F m H (trimR m r) Q E) : Post g (RD g) ρ F m H r Q E := by
  cases r with
  | ok d m' =>
    cases d with
    | ref n => exact h
    | p x =>
      by_cases t : Tame m m'
      · have e : trimR m (.ok (.p x) m') = .ok (.p x) (m'.take m.length) := if_pos t
        rw [e] at h
        intro v H' ρ' F' x1 M1 r1
        obtain ⟨x2, M2⟩ := step_trim M x1 M1 t
        exact h v H' ρ' F' x2 M2 r1
      · have e : trimR m (.ok (.p x) m') = .ok (.p x) m' := if_neg t
        rw [e] at h
        exact h
  | ex x m' =>
    by_cases t : Tame m m'
    · have e : trimR m (.ex x m') = .ex x (m'.take m.length) := if_pos t
      rw [e] at h
      intro cls dd H' ρ' F' x1 M1 r1
      obtain ⟨x2, M2⟩ := step_trim M x1 M1 t
      exact h cls dd H' ρ' F' x2 M2 r1
    · have e : trimR m (.ex x m') = .ex x m' := if_neg t
      rw [e] at h
      exact h
  | no => exact h
theorem trimU_post {g : Gn} {ρ : Rho} {F : Hp} {m : Mem} {H : Hp} {r : R D} {Q : Hp → Prop} {E : XK} (M : MRel g ρ F m H) (h : Post g (RD g) ρ F m H (trimU m r) (fun _ => Q) E) : Post g (RD g) ρ F m H r (fun _ => Q) E := by
  cases r with
  | ok d m' =>
    by_cases t : Tame m m'
    · have e : trimU m (.ok d m') = .ok (.p .non) (m'.take m.length) := if_pos t
      rw [e] at h
      intro v H' ρ' F' x1 M1 r1
      obtain ⟨x2, M2⟩ := step_trim M x1 M1 t
      exact h .non H' ρ' F' x2 M2 RP.non
    · have e : trimU m (.ok d m') = .ok (.p .non) m' := if_neg t
      rw [e] at h
      exact fun v H' ρ' F' x1 M1 r1 => h .non H' ρ' F' x1 M1 RP.non
  | ex x m' =>
    by_cases t : Tame m m'
    · have e : trimU m (.ex x m') = .ex x (m'.take m.length) := if_pos t
      rw [e] at h
      intro cls dd H' ρ' F' x1 M1 r1
      obtain ⟨x2, M2⟩ := step_trim M x1 M1 t
      exact h cls dd H' ρ' F' x2 M2 r1
    · have e : trimU m (.ex x m') = .ex x m' := if_neg t
      rw [e] at h
      exact h
  | no => exact h
theorem Post.on {α β : Type} {g : Gn} {rel : Rho → Hp → Nat → α → β → Prop} {ρ ρ1 : Rho} {F F1 : Hp} {m m1 : Mem} {H H1 : Hp} {r : R α} {Q : β → Hp → Prop} {E : XK} (a : Ext ρ F m H ρ1 F1 m1 H1) (h : Post g rel ρ F m H r Q E) : Post g rel ρ1 F1 m1 H1 r Q E := by
  cases r with
  | ok d m' => exact fun v H' ρ' F' e M q => h v H' ρ' F' (a.trans e) M q
  | ex x m' => exact fun cls dd H' ρ' F' e M q => h cls dd H' ρ' F' (a.trans e) M q
  | no => exact h.elim
/-- the slots -/
structure RSl (g : Gn) (ρ : Rho) (F : Hp) (k : Nat) (δ : List (Option D)) (σ : L2.St) : Prop where
  len : δ.length ≤ σ.length
  get : ∀ (i : Nat) (d : D), δ[i]? = some (some d) → ∃ v, σ[i]? = some (some v) ∧ RD g ρ F k d v
theorem RSl.mono {g : Gn} {ρ ρ1 : Rho} {F F1 : Hp} {m m1 : Mem} {H H1 : Hp} {δ : List (Option D)} {σ : L2.St} (a : Ext ρ F m H ρ1 F1 m1 H1) (h : RSl g ρ F m.length δ σ) : RSl g ρ1 F1 m1.length δ σ := ⟨h.len, fun i d e => by
  obtain ⟨v, e1, r⟩ := h.get i d e
  exact ⟨v, e1, r.mono a⟩⟩
theorem RSl.set {g : Gn} {ρ : Rho} {F : Hp} {k : Nat} {δ : List (Option D)} {σ : L2.St} {d : D} {v : V} (h : RSl g ρ F k δ σ) (i : Nat) (r : RD g ρ F k d v) : RSl g ρ F k (δ.set i (some d)) (σ.set i (some v)) := ⟨by simpa using h.len, fun j e q => by
  by_cases z : i = j
  · subst z
    have hl : i < δ.length := by
      have := (List.getElem?_eq_some_iff.mp q).1
      simpa using this
    rw [List.getElem?_set_self hl] at q
    cases q
    exact ⟨v, List.getElem?_set_self (Nat.lt_of_lt_of_le hl h.len), r⟩
  · rw [List.getElem?_set_ne z] at q ⊢
    exact h.get j e q⟩
theorem RSl.wipe1 {g : Gn} {ρ : Rho} {F : Hp} {k : Nat} {δ : List (Option D)} {σ : L2.St} (h : RSl g ρ F k δ σ) (i : Nat) : RSl g ρ F k (δ.set i none) (σ.set i none) := ⟨by simpa using h.len, fun j e q => by
  by_cases z : i = j
  · subst z
    have hl : i < δ.length := by
      have := (List.getElem?_eq_some_iff.mp q).1
      simpa using this
    rw [List.getElem?_set_self hl] at q
    cases q
  · rw [List.getElem?_set_ne z] at q ⊢
    exact h.get j e q⟩
end Dn

/-! Dn, part C: the copied syntax and its evaluation. -/
noncomputable section
namespace Dn
open PySem L2

inductive BOp where | add | sub | mul | mod | fdiv | pow
inductive COp where | eq | ne | lt | le | gt | ge | isn | notn | inn | nin
inductive Ty where | int | bool | str | list | tuple | dict | own (c : Nat)
inductive BF where | len | int | abs | list | listM | tuple | all | any | sum | str | repr
inductive BM where | join | append | reverse | clear | split
mutual
inductive T where | nm (i : Nat) | tp (l : TL)
inductive TL where | nil | cons (t : T) (l : TL)
end
mutual
inductive RE where
  | var (i : Nat)
  | cst (x : P)
  | glo (n : Nat)
  | tup (l : RL) | lst (mu : Bool) (l : RL)
  | bin (o : BOp) (a b : RE) | neg (a : RE)
  | cmp (o : COp) (a b : RE) | cmp2 (o o' : COp) (a b c : RE)
  | and (a b : RE) | or (a b : RE) | not (a : RE)
  | ite (c a b : RE)
  | isi (a : RE) (one : Bool) (l : List Ty)
  | ix (a b : RE) | sl (a : RE) (lo hi : RO)
  | call (f : Nat) (l : RL)
  | callK (f : Nat) (l kl : RL) (pm : List Nat)
  | bcl (f : BF) (l : RL)
  | bmt (f : BM) (a : RE) (l : RL)
  | lc (mu : Bool) (elt : RE) (t : T) (it : RI) (c : RO) (own : List Nat)
  | frz (a : RE)
  | fld (a : RE) (f : Nat)
  | meth (a : RE) (n : Nat) (l : RL)
  | make (c : Nat) (l : RL)
  | ccon (c n : Nat)
  | smeth (s n : Nat) (l : RL)
  | smethK (f s n : Nat) (kl : RL) (pm : List Nat)
  | makeV (i c : Nat) (l : RL)
  | fmt (a : RE) | fstr (l : RL)
  | prop (a : RE) (n : Nat)
  | rev (a : RE)
  | dcm (t : Bool) (kx vx : RE) (tg : T) (it : RI) (c : RO) (own : List Nat)
  | wall
inductive RL where | nil | cons (e : RE) (l : RL) | star (e : RE) (l : RL)
inductive RO where | none | some (e : RE)
inductive RI where | seq (e : RE) | rng (a : RE) | rng2 (a b : RE) | zip (a b : RE) | enum (a : RE)
end
mutual
inductive RS where
  | set (i : Nat) (e : RE)
  | asg (t : T) (e : RE)
  | par (is : List Nat) (l : RL)
  | iset (a b e : RE)
  | fset (a : RE) (f : Nat) (e : RE)
  | wall
  | aug (i : Nat) (o : BOp) (e : RE)
  | iaug (a b : RE) (o : BOp) (e : RE)
  | ex (e : RE)
  | ret (e : RE)
  | ite (c : RE) (a b : RB)
  | forr (t : T) (it : RI) (b : RB)
  | whl (n : Nat) (c : RE) (b : RB)
  | pas | brk | cnt
inductive RB where | nil | cons (s : RS) (b : RB)
end

def RL.plain : RL → Bool
  | .nil => true
  | .cons _ l => l.plain
  | .star _ _ => false
def RL.len : RL → Nat
  | .nil => 0
  | .cons _ l => l.len + 1
  | .star _ l => l.len + 1
/-! ### values -/
def allP : List D → Option (List P)
  | [] => some []
  | .p x :: l => (allP l).map (x :: ·)
  | .ref _ :: _ => none
/-- read through one list of the store -/
def rdP (m : Mem) : D → Option P
  | .p x => some x
  | .ref n => match m.get n with
    | some (.lst l) => (allP l).map P.lst
    | _ => none
def P.shp (x : P) : Bool := x.dat && SeqAt.shaped x.py
def eqP (x y : P) : Option Bool := match x, y with
  | .str a, .str b => some (decide (a = b))
  | x, y => if x.shp && y.shp then some (PyData.eqv x.py y.py) else none
/-- a new list (of a length that is known to be right) -/
def mkL (mu : Bool) (l : List D) (m : Mem) : R D := match mu, allP l with
  | false, some ps => .ok (.p (.lst ps)) m
  | _, _ => .ok (.ref m.length) (m.new (.lst l))
def mkT (l : List D) (m : Mem) : R D := match allP l with
  | some ps => .ok (.p (.tup ps)) m
  | none => .no
/-- a length that is not known before -/
def lnS {α : Type} (pl : Bool) (f : List D → Mem → R α) (l : List D) (m : Mem) : R α := match pl with
  | true => f l m
  | false => if l.length ≤ sizeLine then f l m else .no
/-- a list's or tuple's items -/
def seqD (m : Mem) : D → Option (List D)
  | .p (.lst l) => some (l.map D.p)
  | .p (.tup l) => some (l.map D.p)
  | .p (.ktp l) => some (l.map D.p)
  | .ref n => match m.get n with
    | some (.lst l) => some l
    | _ => none
  | _ => none
/-- a list, not a tuple -/
def isLst : D → Bool
  | .p (.lst _) => true
  | .ref _ => true
  | _ => false
def flatP : P → Bool
  | .non => true
  | .bl _ => true
  | .int _ => true
  | .str _ => true
  | _ => false
def hasS (z y : Str) : Bool := match y.cps.toList with
  | [c] => decide (c ∈ z.cps.toList)
  | _ => !(Builtin.Str.occurrences z y 0 z.length 1).isEmpty
/-- a dict's item: none where the key is none of its kind -/
def dget (t : Bool) (l : List (P × P)) (k : P) : Option (Option P) := match t with
  | false => match keyP k with
    | some κ => some ((l.find? fun kv => decide (keyP kv.1 = some κ)).map (·.2))
    | none => none
  | true => match keyT k with
    | some κ => some ((l.find? fun kv => decide (keyT kv.1 = some κ)).map (·.2))
    | none => none
def inP (x y : P) : Option Bool := match y with
  | .str b => (match x with
    | .str a => some (hasS b a)
    | _ => none)
  | .lst l => if x.shp && (P.lst l).shp then some (l.any fun z => PyData.eqv z.py x.py) else none
  | .tup l => if flatP x && l.all flatP then some (l.any fun z => PyData.eqv z.py x.py) else none
  | .ktp l => if flatP x && l.all flatP then some (l.any fun z => PyData.eqv z.py x.py) else none
  | .dct t l => (dget t l x).map (·.isSome)
  | _ => none
def ltP (x y : P) : Option Bool := match x, y with
  | .int a, .int b => some (decide (a < b))
  | .str a, .str b => some (decide (a.cps.toList < b.cps.toList))
  | _, _ => none
def leP (x y : P) : Option Bool := match x, y with
  | .int a, .int b => some (decide (a ≤ b))
  | _, _ => none
def isN : D → Bool
  | .p .non => true
  | _ => false
def oB (o : Option Bool) (m : Mem) : R D := match o with | some b => .ok (.p (.bl b)) m | none => .no
def cmpB (f : P → P → Option Bool) (a b : D) (m : Mem) : R D := match rdP m a, rdP m b with
  | some x, some y => oB (f x y) m
  | _, _ => .no
def cmpS (o : COp) (a b : D) (m : Mem) : R D := match o with
  | .isn => if isN b then .ok (.p (.bl (isN a))) m else .no
  | .notn => if isN b then .ok (.p (.bl (!isN a))) m else .no
  | .eq => cmpB eqP a b m
  | .ne => cmpB (fun x y => (eqP x y).map (!·)) a b m
  | .lt => cmpB ltP a b m
  | .gt => cmpB (fun x y => ltP y x) a b m
  | .le => cmpB leP a b m
  | .ge => cmpB (fun x y => leP y x) a b m
  | .inn => cmpB inP a b m
  | .nin => cmpB (fun x y => (inP x y).map (!·)) a b m
def mulOk (i j : Int) : Bool := (decide (-(2 ^ 64) < i) && decide (i < 2 ^ 64)) || (decide (-(2 ^ 64) < j) && decide (j < 2 ^ 64))
def isTupD : D → Bool
  | .p (.tup _) => true
  | .p (.ktp _) => true
  | _ => false
def catS (a b : D) (m : Mem) : R D := if (isTupD a || isTupD b) = true then .no else match seqD m a, seqD m b with
  | some x, some y => if x.length + y.length ≤ sizeLine then mkL false (x ++ y) m else .no
  | _, _ => .no
def binS (o : BOp) (a b : D) (m : Mem) : R D := match o, a, b with
  | .add, .p (.int i), .p (.int j) => .ok (.p (.int (i + j))) m
  | .sub, .p (.int i), .p (.int j) => .ok (.p (.int (i - j))) m
  | .mul, .p (.int i), .p (.int j) => if mulOk i j then .ok (.p (.int (i * j))) m else .no
  | .mod, .p (.int i), .p (.int j) => if 0 < j then .ok (.p (.int (i % j))) m else .no
  | .fdiv, .p (.int i), .p (.int j) => if 0 < j ∧ j < 1073741824 then .ok (.p (.int (i / j))) m else .no
  | .pow, .p (.int i), .p (.int j) => if 0 ≤ j ∧ j ≤ 1000000 ∧ i.natAbs < 2 ^ 64 then .ok (.p (.int (i ^ j.toNat))) m else .no
  | .add, .p (.str x), .p (.str y) => if x.length + y.length ≤ sizeLine then .ok (.p (.str (x ++ y))) m else .no
  | .add, .p (.tup x), .p (.tup y) => if x.length + y.length ≤ sizeLine then .ok (.p (.tup (x ++ y))) m else .no
  | .mul, .p (.lst x), .p (.int j) => if -(2 ^ 63) ≤ j ∧ j < 2 ^ 63 ∧ x.length * j.toNat ≤ sizeLine then .ok (.p (.lst (List.replicate j.toNat x).flatten)) m else .no
  | .add, a, b => catS a b m
  | _, _, _ => .no
def tyS : Ty → String
  | .int => "int" | .bool => "bool" | .str => "str" | .list => "list" | .tuple => "tuple" | .dict => "dict" | .own _ => ""
/-- the kind of a value -/
def kindS : D → Mem → Option (Nat ⊕ String)
  | .p .non, _ => some (.inr "NoneType")
  | .p (.bl _), _ => some (.inr "bool")
  | .p (.int _), _ => some (.inr "int")
  | .p (.str _), _ => some (.inr "str")
  | .p (.lst _), _ => some (.inr "list")
  | .p (.tup _), _ => some (.inr "tuple")
  | .p (.dct false _), _ => some (.inr "dict")
  | .p (.dct true _), _ => none
  | .p (.ins k _), _ => some (.inl k)
  | .p (.ktp _), _ => none
  | .p (.scr _), _ => none
  | .p (.cls _), _ => none
  | .ref n, m => match m.get n with
    | some (.lst _) => some (.inr "list")
    | some (.dct _) => some (.inr "dict")
    | some (.dcT _) => some (.inr "dict")
    | some (.ins k _) => some (.inl k)
    | _ => none
def isK (c : Ty) : Nat ⊕ String → Bool
  | .inl k => match c with | .own j => decide (j = k) | _ => false
  | .inr s => match c with | .int => s == "int" || s == "bool" | .own _ => false | t => s == tyS t
def isTy (c : Ty) (d : D) (m : Mem) : Option Bool := (kindS d m).map (isK c)
def isTys (l : List Ty) (d : D) (m : Mem) : Option Bool := match l with
  | [] => some false
  | c :: l => match isTy c d m with
    | some true => some true
    | some false => isTys l d m
    | none => none
def ixS (a b : D) (m : Mem) : R D := match a, b with
  | .p (.str z), .p (.int i) => (match atI z.cps.toList i with | some c => .ok (.p (.str ⟨#[c]⟩)) m | none => .no)
  | .p (.dct t l), .p k => match dget t l k with
    | some (some x) => .ok (.p x) m
    | _ => .no
  | a, .p (.int i) => match seqD m a with
    | some l => (match atI l i with | some d => .ok d m | none => .no)
    | none => .no
  | _, _ => .no
def cutD {α : Type} (xs : List α) (lo hi : Option Int) : List α := (xs.drop (HT.sIx xs.length 0 lo)).take (HT.sIx xs.length xs.length hi - HT.sIx xs.length 0 lo)
def slS (a : D) (lo hi : Option Int) (m : Mem) : R D := match a with
  | .p (.str z) => .ok (.p (.str (cutS z lo hi))) m
  | .p (.lst l) => .ok (.p (.lst (cutD l lo hi))) m
  | .p (.scr ns) => .ok (.p (.lst ((cutD ns lo hi).map P.int))) m
  | .p (.tup l) => .ok (.p (.tup (cutD l lo hi))) m
  | .ref n => match m.get n with
    | some (.lst l) => (match allP l with | some ps => .ok (.p (.lst (cutD ps lo hi))) m | none => .ok (.ref m.length) (m.new (.lst (cutD l lo hi))))
    | _ => .no
  | _ => .no
def strsP : List P → Option (List Str)
  | [] => some []
  | .str s :: l => (strsP l).map (s :: ·)
  | _ :: _ => none
def intsP : List P → Option (List Int)
  | [] => some []
  | .int s :: l => (intsP l).map (s :: ·)
  | _ :: _ => none
def blsP : List P → Option (List Bool)
  | [] => some []
  | .bl s :: l => (blsP l).map (s :: ·)
  | _ :: _ => none
def lenS (a : D) (m : Mem) : R D := match a with
  | .p (.str z) => .ok (.p (.int z.length)) m
  | .p (.dct false l) => .ok (.p (.int l.length)) m
  | a => match seqD m a with
    | some l => .ok (.p (.int l.length)) m
    | none => .no
def intS (a : D) (m : Mem) : R D := match a with
  | .p (.int i) => .ok (.p (.int i)) m
  | .p (.bl b) => .ok (.p (.int (if b then 1 else 0))) m
  | .p (.str z) => match PySem.intText? z with
    | some n => if z.length ≤ 640 then .ok (.p (.int n)) m else .no
    | none => .no
  | _ => .no
def onL {α : Type} (f : List P → Option α) (g : α → P) (a : D) (m : Mem) : R D := match rdP m a with
  | some (.lst l) => (match f l with | some x => .ok (.p (g x)) m | none => .no)
  | _ => .no
/-- list(x): a list, a tuple, a dict's keys -/
def listS (mu : Bool) (a : D) (m : Mem) : R D := match a with
  | .p (.dct false l) => mkL mu (l.map fun kv => .p kv.1) m
  | a => match seqD m a with
    | some l => mkL mu l m
    | none => .no
def tupleS (a : D) (m : Mem) : R D := if isTupD a = true then .ok a m else match seqD m a with
  | some l => mkT l m
  | none => .no
def absS (a : D) (m : Mem) : R D := match a with
  | .p (.int i) => .ok (.p (.int (if i < 0 then -i else i))) m
  | _ => .no
def strS (a : D) (m : Mem) : R D := match a with
  | .p (.int i) => if i.natAbs.log2 < 1920 then .ok (.p (.str (toString i))) m else .no
  | _ => .no
def bclS (f : BF) (l : List D) (m : Mem) : R D := match l with
  | [a] => (match f with
    | .len => lenS a m
    | .int => intS a m
    | .abs => absS a m
    | .list => listS false a m
    | .listM => listS true a m
    | .repr => .no
    | .tuple => tupleS a m
    | .all => onL blsP (fun bs => .bl (bs.all id)) a m
    | .any => onL blsP (fun bs => .bl (bs.any id)) a m
    | .sum => onL intsP (fun ns => .int ns.sum) a m
    | .str => strS a m)
  | _ => .no
def seqP (m : Mem) (a : D) : Option (List P) := match seqD m a with
  | some l => allP l
  | none => none
def joinS (a : D) (l : List D) (m : Mem) : R D := match a, l with
  | .p (.str s), [b] => (match (seqP m b).bind strsP with
    | some ss => if (ss.map Str.length).sum + ss.length * s.length ≤ 16777216 then .ok (.p (.str (Txt.join s ss))) m else .no
    | none => .no)
  | _, _ => .no
def appendS (a : D) (l : List D) (m : Mem) : R D := match a, l with
  | .ref n, [d] => (match m.get n with
    | some (.lst l) => if l.length < sizeLine then .ok (.p .non) (m.put n (.lst (l ++ [d]))) else .no
    | _ => .no)
  | _, _ => .no
def reverseS (a : D) (l : List D) (m : Mem) : R D := match a, l with
  | .ref n, [] => (match m.get n with
    | some (.lst l) => .ok (.p .non) (m.put n (.lst l.reverse))
    | _ => .no)
  | _, _ => .no
def clearS (a : D) (l : List D) (m : Mem) : R D := match a, l with
  | .ref n, [] => (match m.get n with
    | some (.lst _) => .ok (.p .non) (m.put n (.lst []))
    | _ => .no)
  | _, _ => .no
def splitS (a : D) (l : List D) (m : Mem) : R D := match a, l with
  | .p (.str s), [.p (.str t)] => if (t.length == 0) = false ∧ s.length + 2 ≤ sizeLine then .ok (.p (.lst ((Txt.split s t).map P.str))) m else .no
  | _, _ => .no
def bmtS (f : BM) (a : D) (l : List D) (m : Mem) : R D := match f with
  | .join => joinS a l m
  | .append => appendS a l m
  | .reverse => reverseS a l m
  | .clear => clearS a l m
  | .split => splitS a l m
def bmL : BM → Bool
  | .append => true
  | .reverse => true
  | .clear => true
  | _ => false
/-- whose method it is -/
def bmPre (f : BM) (a : D) (m : Mem) : Bool := match a with
  | .p (.str _) => !bmL f
  | .ref n => (match m.get n with
    | some (.lst _) => bmL f
    | _ => false)
  | _ => false
def isetS (a b e : D) (m : Mem) : R Unit := match a, b with
  | .ref n, .p (.int i) => match m.get n with
    | some (.lst l) => (match ixN l.length i with | some j => .ok () (m.put n (.lst (l.set j e))) | none => .no)
    | _ => .no
  | _, _ => .no
/-- an object becomes pure data, with what it holds -/
def frzL (f : D → Mem → Option (P × Mem)) : List D → Mem → Option (List P × Mem)
  | [], m => some ([], m)
  | d :: l, m => match f d m with
    | some (x, m) => (match frzL f l m with
      | some (xs, m) => some (x :: xs, m)
      | none => none)
    | none => none
def frzN : Nat → D → Mem → Option (P × Mem)
  | _, .p x, m => some (x, m)
  | 0, .ref _, _ => none
  | k + 1, .ref n, m => match m.get n with
    | some (.lst l) => (match frzL (frzN k) l m with
      | some (ps, m) => if (m.get n).isSome then some (.lst ps, m.kill n) else none
      | none => none)
    | some (.dct l) => (match frzL (frzN k) (l.map (·.2)) m with
      | some (ps, m) => if (m.get n).isSome then some (.dct false ((l.map (·.1)).zip ps), m.kill n) else none
      | none => none)
    | some (.dcT l) => (match frzL (frzN k) (l.map (·.2)) m with
      | some (ps, m) => if (m.get n).isSome then some (.dct true ((l.map (·.1)).zip ps), m.kill n) else none
      | none => none)
    | some (.ins c l) => (match frzL (frzN k) (l.map (·.2)) m with
      | some (ps, m) => if (m.get n).isSome then some (.ins c ((l.map (·.1)).zip ps), m.kill n) else none
      | none => none)
    | _ => none
def frzS (d : D) (m : Mem) : R D := match frzN 5 d m with
  | some (x, m) => .ok (.p x) m
  | none => .no

/-- a program's tables: its module's constants; a class's methods; may a class's instances be asked for an own field of that name; __init__; a class's constants -/
structure Gv where
  c : Nat → P
  mt : Nat → Nat → Option Nat
  fk : Nat → Nat → Bool
  ini : Nat → Option Nat
  cc : Nat → Nat → Option P
  /-- a class's own __len__ (0), __repr__ (1), __contains__ (2), __eq__ (3), __bool__ (4) -/
  om : Nat → Nat → Option Nat
  /-- a method that is called by the class's name: its def; does it take the class -/
  sm : Nat → Nat → Option (Nat × Bool)
  /-- a property: its getter's def -/
  pr : Nat → Nat → Option Nat
/-- o.f -/
def lookF {α : Type} : List (Nat × α) → Nat → Option α
  | [], _ => none
  | (k, x) :: l, f => if k = f then some x else lookF l f
def fldS (gv : Gv) (f : Nat) (d : D) (m : Mem) : R D := match d with
  | .p (.ins c l) => if gv.fk c f = true then (match lookF l f with | some x => .ok (.p x) m | none => .no) else .no
  | .ref n => match m.get n with
    | some (.ins c l) => if gv.fk c f = true then (match lookF l f with | some x => .ok x m | none => .no) else .no
    | _ => .no
  | _ => .no
/-- the class of an instance -/
def clsS (d : D) (m : Mem) : Option Nat := match d with
  | .p (.ins c _) => some c
  | .ref n => match m.get n with
    | some (.ins c _) => some c
    | _ => none
  | _ => none
/-- has it an own field of that name -/
def setF {α : Type} : List (Nat × α) → Nat → α → List (Nat × α)
  | [], f, y => [(f, y)]
  | (k, x) :: l, f, y => if k = f then (f, y) :: l else (k, x) :: setF l f y
def fsetS (gv : Gv) (f : Nat) (a y : D) (m : Mem) : R Unit := match a with
  | .ref n => match m.get n with
    | some (.ins c l) => if gv.fk c f = true ∧ l.length < 100 then .ok () (m.put n (.ins c (setF l f y))) else .no
    | _ => .no
  | _ => .no
/-! ### targets, walks -/
abbrev Sl := List (Option D)
mutual
def asgT : T → D → Mem → Sl → Option Sl
  | .nm i, d, _, δ => some (δ.set i (some d))
  | .tp l, d, m, δ => match seqD m d with
    | some ds => asgTL l ds m δ
    | none => none
def asgTL : TL → List D → Mem → Sl → Option Sl
  | .nil, [], _, δ => some δ
  | .cons t l, d :: ds, m, δ => match asgT t d m δ with
    | some δ' => asgTL l ds m δ'
    | none => none
  | _, _, _, _ => none
end
def wipeD (δ : Sl) : List Nat → Sl
  | [] => δ
  | v :: vs => (wipeD δ vs).set v none
/-- items, and the list of the store that must stand as it is while it is walked -/
structure Its where
  l : List D
  n : Option (Nat × List D)
def Its.held (t : Its) (m : Mem) : Prop := match t.n with
  | none => True
  | some n => m.get n.1 = some (.lst n.2)
def zipP : List P → List P → List D
  | a :: l, b :: r => .p (.tup [a, b]) :: zipP l r
  | _, _ => []
def itSeq (d : D) (m : Mem) : Option Its := match d with
  | .p (.lst l) => some ⟨l.map D.p, none⟩
  | .p (.tup l) => some ⟨l.map D.p, none⟩
  | .p (.ktp l) => some ⟨l.map D.p, none⟩
  | .p (.str z) => some ⟨z.cps.toList.map fun c => .p (.str ⟨#[c]⟩), none⟩
  | .ref n => match m.get n with
    | some (.lst l) => some ⟨l, some (n, l)⟩
    | _ => none
  | _ => none
def itRng (d : D) : Option Its := match d with
  | .p (.int i) => if -(2 ^ 62) ≤ i ∧ i ≤ sizeLine then some ⟨(List.range i.toNat).map fun (k : Nat) => .p (.int (k : Int)), none⟩ else none
  | _ => none
def itRng2 (d e : D) : Option Its := match d, e with
  | .p (.int i), .p (.int j) => if -(2 ^ 61) ≤ i ∧ i < 2 ^ 61 ∧ -(2 ^ 61) ≤ j ∧ j < 2 ^ 61 ∧ j - i ≤ sizeLine then some ⟨(List.range (j - i).toNat).map fun (k : Nat) => .p (.int (i + (k : Int))), none⟩ else none
  | _, _ => none
def enumP : Nat → List P → List D
  | k, a :: l => .p (.tup [.int k, a]) :: enumP (k + 1) l
  | _, [] => []
def itEnum (a : D) (m : Mem) : Option Its := match a with
  | .p (.lst l) => some ⟨enumP 0 l, none⟩
  | .p (.tup l) => some ⟨enumP 0 l, none⟩
  | .ref n => match m.get n with
    | some (.lst l) => (match allP l with | some ps => some ⟨enumP 0 ps, some (n, l)⟩ | none => none)
    | _ => none
  | _ => none
def itZip (a b : D) : Option Its := match a, b with
  | .p (.lst l), .p (.lst r) => some ⟨zipP l r, none⟩
  | .p (.tup l), .p (.tup r) => some ⟨zipP l r, none⟩
  | _, _ => none
def oR {α : Type} (o : Option α) (m : Mem) : R α := match o with | some a => .ok a m | none => .no
/-- what a comprehension's turn may not do: raise -/
def R.calm {α : Type} : R α → R α
  | .ok a m => .ok a m
  | _ => .no
def asB (d : D) (m : Mem) : R Bool := match d with
  | .p (.bl b) => .ok b m
  | _ => .no
open Classical in
def lcRun (f : D → Mem → R (Option D)) (t : Its) : List D → Mem → R (List D)
  | [], m => if t.held m then .ok [] m else .no
  | x :: xs, m => if t.held m then (f x m).calm.bind fun o m1 => (lcRun f t xs m1).bind fun ys m2 => .ok (o.toList ++ ys) m2 else .no

def fmtS (d : D) (m : Mem) : R D := match d with
  | .p (.str s) => .ok (.p (.str s)) m
  | .p (.int i) => if i.natAbs.log2 < 1920 then .ok (.p (.str (toString i))) m else .no
  | _ => .no
def addS (acc : Str) (x : D) : Option Str := match x with
  | .p (.str s) => if (acc ++ s).length ≤ sizeLine then some (acc ++ s) else none
  | _ => none
def revS (d : D) (m : Mem) : R D := match d with
  | .p (.lst l) => .ok (.p (.lst l.reverse)) m
  | _ => .no
/-- two pure values -/
def pairS (y z : D) (m : Mem) : R (Option (P × P)) := match y, z with
  | .p y, .p z => .ok (some (y, z)) m
  | _, _ => .no
def putP (l : List (P × P)) (t : Bool) (k x : P) : Option (List (P × P)) := match t with
  | false => match keyP k with
    | some κ => some (if (l.any fun kv => decide (keyP kv.1 = some κ)) = true then l.map fun kv => if keyP kv.1 = some κ then (kv.1, x) else kv else l ++ [(k, x)])
    | none => none
  | true => none
open Classical in
/-- a dict comprehension: a pure dict -/
def dcRun (t : Bool) (f : D → Mem → R (Option (P × P))) (i : Its) : List D → List (P × P) → Mem → R D
  | [], acc, m => if i.held m then .ok (.p (.dct t acc)) m else .no
  | x :: xs, acc, m => if i.held m then (f x m).calm.bind fun o m1 => (match o with
      | none => dcRun t f i xs acc m1
      | some (k, v) => match putP acc t k v with
        | some acc' => dcRun t f i xs acc' m1
        | none => .no) else .no
/-- a new instance, its __init__ -/
def makeS (cl : Nat → List D → Mem → R D) (c f : Nat) (xs : List D) (m : Mem) : R D := (cl f (.ref m.length :: xs) (m.new (.ins c []))).bind fun r m' => (match r with | .p .non => .ok (.ref m.length) m' | _ => .no)
/-- an own method's answer -/
def ansB (f : Bool → Bool) (r : D) (m : Mem) : R D := match r with
  | .p (.bl b) => .ok (.p (.bl (f b))) m
  | _ => .no
def ansI (r : D) (m : Mem) : R D := match r with
  | .p (.int n) => if 0 ≤ n ∧ n < 2 ^ 63 then .ok (.p (.int n)) m else .no
  | _ => .no
def ansS (r : D) (m : Mem) : R D := match r with
  | .p (.str z) => .ok (.p (.str z)) m
  | _ => .no
/-- a comparison, an own one, too -/
def cmpO (cl : Nat → List D → Mem → R D) (gv : Gv) (o : COp) (a b : D) (m : Mem) : R D := match o with
  | .eq => (match clsS a m with
    | some c => (match gv.om c 3 with | some f => (if (kindS b m).isSome = true then (cl f [a, b] m).calm.bind (ansB id) else .no) | none => .no)
    | none => cmpS .eq a b m)
  | .ne => (match clsS a m with
    | some c => (match gv.om c 3 with | some f => (if (kindS b m).isSome = true then (cl f [a, b] m).calm.bind (ansB not) else .no) | none => .no)
    | none => cmpS .ne a b m)
  | .inn => (match clsS b m with
    | some c => (match gv.om c 2 with | some f => (cl f [b, a] m).calm.bind (ansB id) | none => .no)
    | none => cmpS .inn a b m)
  | .nin => (match clsS b m with
    | some c => (match gv.om c 2 with | some f => (cl f [b, a] m).calm.bind (ansB not) | none => .no)
    | none => cmpS .nin a b m)
  | o => cmpS o a b m
/-- a built-in function, an own method behind it, too -/
def bclO (cl : Nat → List D → Mem → R D) (gv : Gv) (f : BF) (l : List D) (m : Mem) : R D := match f, l with
  | .len, [a] => (match clsS a m with
    | some c => (match gv.om c 0 with | some f => (cl f [a] m).calm.bind ansI | none => .no)
    | none => bclS .len [a] m)
  | .repr, [a] => (match clsS a m with
    | some c => (match gv.om c 1 with | some f => (cl f [a] m).calm.bind ansS | none => .no)
    | none => bclS .repr [a] m)
  | f, l => bclS f l m
/-- the arguments in the parameters' order -/
def permL {α : Type} (pm : List Nat) (xs zs : List α) : List α := pm.filterMap fun i => (xs ++ zs)[i]?
section
variable (cl : Nat → List D → Mem → R D) (gv : Gv)
mutual
def den : RE → Sl → Mem → R D
  | .var i, δ, m => match δ[i]? with
    | some (some d) => .ok d m
    | _ => .no
  | .cst x, _, m => .ok (.p x) m
  | .glo n, _, m => .ok (.p (gv.c n)) m
  | .tup l, δ, m => (denL l δ m).bind (lnS l.plain mkT)
  | .lst mu l, δ, m => (denL l δ m).bind (lnS l.plain (mkL mu))
  | .bin o a b, δ, m => (den a δ m).bind fun x m => (den b δ m).bind fun y m => binS o x y m
  | .neg a, δ, m => (den a δ m).bind fun x m => match x with | .p (.int i) => .ok (.p (.int (-i))) m | _ => .no
  | .cmp o a b, δ, m => (den a δ m).bind fun x m => (den b δ m).bind fun y m => cmpO cl gv o x y m
  | .cmp2 o o' a b c, δ, m => (den a δ m).bind fun x m => (den b δ m).bind fun y m => (cmpS o x y m).bind fun k m => (asB k m).bind fun k m =>
      if k then (den c δ m).bind fun z m => cmpS o' y z m else .ok (.p (.bl false)) m
  | .and a b, δ, m => (den a δ m).bind fun x m => (asB x m).bind fun x m => if x then den b δ m else .ok (.p (.bl false)) m
  | .or a b, δ, m => (den a δ m).bind fun x m => (asB x m).bind fun x m => if x then .ok (.p (.bl true)) m else den b δ m
  | .not a, δ, m => (den a δ m).bind fun x m => (asB x m).bind fun x m => .ok (.p (.bl (!x))) m
  | .ite c a b, δ, m => (den c δ m).bind fun x m => (asB x m).bind fun x m => if x then den a δ m else den b δ m
  | .isi a _ l, δ, m => (den a δ m).bind fun x m => oB (isTys l x m) m
  | .ix a b, δ, m => (den a δ m).bind fun x m => (den b δ m).bind fun y m => ixS x y m
  | .sl a lo hi, δ, m => (den a δ m).bind fun x m => (denO lo δ m).bind fun i m => (denO hi δ m).bind fun j m => slS x i j m
  | .call f l, δ, m => (denL l δ m).bind (cl f)
  | .callK f l kl pm, δ, m => (denL l δ m).bind fun xs m => (denL kl δ m).bind fun zs m => cl f (permL pm xs zs) m
  | .bcl f l, δ, m => (denL l δ m).bind (bclO cl gv f)
  | .bmt f a l, δ, m => (den a δ m).bind fun x m => if bmPre f x m = true then (denL l δ m).bind (bmtS f x) else .no
  | .lc mu e t it c own, δ, m => (denI it δ m).bind fun its m =>
      (lcRun (fun x m => (oR (asgT t x m (wipeD δ own)) m).bind fun δ' m => (denC c δ' m).bind fun k m => if k then (den e δ' m).bind fun y m => .ok (some y) m else .ok none m) its its.l m).bind (mkL mu)
  | .frz a, δ, m => trimR m ((den a δ m).bind frzS)
  | .fld a f, δ, m => (den a δ m).bind fun x m => fldS gv f x m
  | .meth a n l, δ, m => (den a δ m).bind fun x m => match (clsS x m).bind fun c => gv.mt c n with
    | some f => (denL l δ m).bind fun xs m => cl f (x :: xs) m
    | none => .no
  | .make c l, δ, m => match gv.ini c with
    | some f => (denL l δ m).bind fun xs m => makeS cl c f xs m
    | none => .no
  | .ccon c n, _, m => match gv.cc c n with | some x => .ok (.p x) m | none => .no
  | .smeth c n l, δ, m => match gv.sm c n with
    | some (f, true) => (denL l δ m).bind fun xs m => cl f (.p (.cls c) :: xs) m
    | some (f, false) => (denL l δ m).bind (cl f)
    | none => .no
  | .smethK f c n kl pm, δ, m => match gv.sm c n with
    | some (f', true) => if f' = f then (denL kl δ m).bind fun zs m => cl f (permL pm [.p (.cls c)] zs) m else .no
    | _ => .no
  | .makeV i c l, δ, m => match δ[i]?, gv.ini c with
    | some (some (.p (.cls c'))), some f => if c' = c then (denL l δ m).bind fun xs m => makeS cl c f xs m else .no
    | _, _ => .no
  | .fmt a, δ, m => (den a δ m).bind fmtS
  | .fstr l, δ, m => denJ l Str.empty δ m
  | .prop a n, δ, m => (den a δ m).bind fun x m => match (clsS x m).bind fun c => gv.pr c n with
    | some f => (cl f [x] m).calm
    | none => .no
  | .rev a, δ, m => (den a δ m).bind revS
  | .dcm t kx vx tg it c own, δ, m => (denI it δ m).bind fun its m =>
      dcRun t (fun x m => (oR (asgT tg x m (wipeD δ own)) m).bind fun δ' m => (denC c δ' m).bind fun k m => if k then (den kx δ' m).bind fun y m => (den vx δ' m).bind fun z m => pairS y z m else .ok none m) its its.l [] m
  | .wall, _, _ => .no
def denL : RL → Sl → Mem → R (List D)
  | .nil, _, m => .ok [] m
  | .cons e l, δ, m => (den e δ m).bind fun x m => (denL l δ m).bind fun xs m => .ok (x :: xs) m
  | .star e l, δ, m => (den e δ m).bind fun x m => (oR (seqD m x) m).bind fun ys m => (denL l δ m).bind fun xs m => .ok (ys ++ xs) m
def denJ : RL → Str → Sl → Mem → R D
  | .nil, acc, _, m => .ok (.p (.str acc)) m
  | .cons e l, acc, δ, m => (den e δ m).bind fun x m => match addS acc x with
    | some acc => denJ l acc δ m
    | none => .no
  | .star _ _, _, _, _ => .no
def denO : RO → Sl → Mem → R (Option Int)
  | .none, _, m => .ok none m
  | .some e, δ, m => (den e δ m).bind fun x m => match x with | .p (.int i) => .ok (some i) m | _ => .no
def denC : RO → Sl → Mem → R Bool
  | .none, _, m => .ok true m
  | .some e, δ, m => (den e δ m).bind asB
def denI : RI → Sl → Mem → R Its
  | .seq e, δ, m => (den e δ m).bind fun x m => oR (itSeq x m) m
  | .rng e, δ, m => (den e δ m).bind fun x m => oR (itRng x) m
  | .rng2 a b, δ, m => (den a δ m).bind fun x m => (den b δ m).bind fun y m => oR (itRng2 x y) m
  | .zip a b, δ, m => (den a δ m).bind fun x m => (den b δ m).bind fun y m => oR (itZip x y) m
  | .enum a, δ, m => (den a δ m).bind fun x m => oR (itEnum x m) m
end

/-- how a statement ends -/
inductive Fl where | nx | rt (d : D) | br | ct
/-- .. with its slots -/
inductive S where | ok (f : Fl) (δ : Sl) (m : Mem) | ex (x : Ex) (δ : Sl) (m : Mem) | no
def R.toS {α : Type} (r : R α) (δ : Sl) (f : α → Mem → S) : S := match r with | .ok a m => f a m | .ex x m => .ex x δ m | .no => .no
open Classical in
def forRun (f : D → Sl → Mem → S) (t : Its) : List D → Sl → Mem → S
  | [], δ, m => if t.held m then .ok .nx δ m else .no
  | x :: xs, δ, m => if t.held m then (match f x δ m with
      | .ok .nx δ m => forRun f t xs δ m
      | .ok .ct δ m => forRun f t xs δ m
      | .ok .br δ m => .ok .nx δ m
      | r => r) else .no
def whlRun (c : Sl → Mem → R Bool) (b : Sl → Mem → S) : Nat → Sl → Mem → S
  | 0, _, _ => .no
  | n + 1, δ, m => (c δ m).toS δ fun k m => if k then (match b δ m with
      | .ok .nx δ m => whlRun c b n δ m
      | .ok .ct δ m => whlRun c b n δ m
      | .ok .br δ m => .ok .nx δ m
      | r => r) else .ok .nx δ m
def getS (a b : D) (m : Mem) : R D := match a, b with
  | .ref n, .p (.int i) => (match m.get n with
    | some (.lst l) => (match atI l i with | some d => .ok d m | none => .no)
    | _ => .no)
  | _, _ => .no
def augS (o : BOp) (x y : D) (m : Mem) : R D := match o, x, y with
  | .add, .p (.int i), .p (.int j) => .ok (.p (.int (i + j))) m
  | .sub, .p (.int i), .p (.int j) => .ok (.p (.int (i - j))) m
  | .mul, .p (.int i), .p (.int j) => if mulOk i j then .ok (.p (.int (i * j))) m else .no
  | _, _, _ => .no
mutual
def denS : RS → Sl → Mem → S
  | .set i e, δ, m => (den cl gv e δ m).toS δ fun d m => .ok .nx (δ.set i (some d)) m
  | .asg t e, δ, m => (den cl gv e δ m).toS δ fun d m => match asgT t d m δ with
    | some δ' => .ok .nx δ' m
    | none => .no
  | .par is l, δ, m => (denL cl gv l δ m).toS δ fun ds m => if ds.length = is.length then .ok .nx ((is.zip ds).foldl (fun δ p => δ.set p.1 (some p.2)) δ) m else .no
  | .iset a b e, δ, m => (den cl gv e δ m).toS δ fun v m => (den cl gv a δ m).toS δ fun x m => (den cl gv b δ m).toS δ fun y m => (isetS x y v m).toS δ fun _ m => .ok .nx δ m
  | .wall, _, _ => .no
  | .fset a f e, δ, m => (den cl gv e δ m).toS δ fun v m => (den cl gv a δ m).toS δ fun x m => (fsetS gv f x v m).toS δ fun _ m => .ok .nx δ m
  | .aug i o e, δ, m => match δ[i]? with
    | some (some x) => (den cl gv e δ m).toS δ fun y m => (augS o x y m).toS δ fun z m => .ok .nx (δ.set i (some z)) m
    | _ => .no
  | .iaug a b o e, δ, m => (den cl gv a δ m).toS δ fun u m => (den cl gv b δ m).toS δ fun i m => (getS u i m).toS δ fun x m => (den cl gv e δ m).toS δ fun y m => (augS o x y m).toS δ fun z m => (isetS u i z m).toS δ fun _ m => .ok .nx δ m
  | .ex e, δ, m => (trimU m (den cl gv e δ m)).toS δ fun _ m => .ok .nx δ m
  | .ret e, δ, m => (den cl gv e δ m).toS δ fun d m => .ok (.rt d) δ m
  | .ite c a b, δ, m => ((den cl gv c δ m).bind asB).toS δ fun k m => if k then denB a δ m else denB b δ m
  | .forr t it b, δ, m => (denI cl gv it δ m).toS δ fun its m => forRun (fun x δ m => match asgT t x m δ with
    | some δ' => denB b δ' m
    | none => .no) its its.l δ m
  | .whl n c b, δ, m => whlRun (fun δ m => (den cl gv c δ m).bind asB) (denB b) n δ m
  | .pas, δ, m => .ok .nx δ m
  | .brk, δ, m => .ok .br δ m
  | .cnt, δ, m => .ok .ct δ m
def denB : RB → Sl → Mem → S
  | .nil, δ, m => .ok .nx δ m
  | .cons s b, δ, m => match denS s δ m with
    | .ok .nx δ m => denB b δ m
    | r => r
end
end
/-- a def: how many parameters, slots; its defaults; is the last parameter a starred one; its body -/
structure FD where
  np : Nat
  ns : Nat
  df : List P
  st : Bool
  body : RB
def argsD (f : FD) (l : List D) : Option (List D) := match f.st with
  | true => if f.np ≤ l.length + 1 then (allP (l.drop (f.np - 1))).map fun ps => l.take (f.np - 1) ++ [.p (.tup ps)] else none
  | false => if l.length ≤ f.np ∧ f.np ≤ l.length + f.df.length then some (l ++ (f.df.drop (l.length + f.df.length - f.np)).map D.p) else none
def startD (n : Nat) (l : List D) : Sl := l.map some ++ List.replicate (n - l.length) none
def endS : S → R D
  | .ok (.rt d) _ m => .ok d m
  | .ok .nx _ m => .ok (.p .non) m
  | .ex x _ m => .ex x m
  | _ => .no
def runD (cl : Nat → List D → Mem → R D) (gv : Gv) (f : FD) (l : List D) (m : Mem) : R D := match argsD f l with
  | some l => trimR m (endS (denB cl gv f.body (startD f.ns l) m))
  | none => .no
/-- a program: its defs, its constants -/
structure Pg where
  fd : Nat → Option FD
  gv : Gv
def callAt (p : Pg) : Nat → Nat → List D → Mem → R D
  | 0, _, _, _ => .no
  | k + 1, f, l, m => match p.fd f with
    | some d => runD (callAt p k) p.gv d l m
    | none => .no
end Dn
end

/-! Dn, part D: operations by values. -/
namespace Dn
open PySem PySem.Spec PyProof.Rows L2

abbrev PostD (g : Gn) := Post g (RD g)
section
variable {g : Gn} {ρ : Rho} {F H : Hp} {m : Mem} {Q : VK} {E : XK}
theorem Post.val {α β : Type} {rel : Rho → Hp → Nat → α → β → Prop} {d : α} {v : β} {Q : β → Hp → Prop} (h : Post g rel ρ F m H (.ok d m) Q E) (M : MRel g ρ F m H) (r : rel ρ F m.length d v) : Q v H := h v H ρ F Ext.refl M r
theorem MRel.free (M : MRel g ρ F m H) {a : Addr} (ha : H a = none) : F a = none := by
  cases e : F a with
  | none => rfl
  | some o => rcases M.sub a o e with h | ⟨_, _, h⟩ <;> (rw [ha] at h; cases h)
theorem subNew {a : Addr} {ho : HO} (h : F a = none) : Sub F (upd F a ho) := Sub.of fun b o e => by rw [upd_ne (ne_of_none e h)]; exact e
theorem Post.newLst {ps : List P} {vs : List V} {a : Addr} (hl : ps.length ≤ sizeLine) (h : PostD g ρ F m H (.ok (.p (.lst ps)) m) Q E) (M : MRel g ρ F m H) (r : RPs g F ps vs) (ha : H a = none) : Q (.ref a) (upd H a (.lst vs)) := by
  obtain ⟨x, M'⟩ := step_pure (ho := .lst vs) M ha
  exact h _ _ _ _ x M' (RP.lst hl upd_same (RPs.up (subNew (M.free ha)) r))
theorem Post.newTup {ps : List P} {vs : List V} {a : Addr} (hl : ps.length ≤ sizeLine) (h : PostD g ρ F m H (.ok (.p (.tup ps)) m) Q E) (M : MRel g ρ F m H) (r : RPs g F ps vs) (ha : H a = none) : Q (.ref a) (upd H a (.tup vs)) := by
  obtain ⟨x, M'⟩ := step_pure (ho := .tup vs) M ha
  exact h _ _ _ _ x M' (RP.tup hl upd_same (RPs.up (subNew (M.free ha)) r))
theorem allP_eq : ∀ {l : List D} {ps : List P}, allP l = some ps → l = ps.map D.p
  | [], ps, e => by cases e; rfl
  | .p x :: l, ps, e => by
    obtain ⟨qs, e1, e2⟩ := Option.map_eq_some_iff.mp (show (allP l).map (x :: ·) = some ps from e)
    subst e2
    rw [allP_eq e1]
    rfl
  | .ref _ :: _, _, e => by cases e
theorem allP_map (ps : List P) : allP (ps.map D.p) = some ps := by
  induction ps with
  | nil => rfl
  | cons x l ih =>
    show (allP (l.map D.p)).map (x :: ·) = _
    rw [ih]
    rfl
theorem Post.newL {l : List D} {vs : List V} {a : Addr} (hl : l.length ≤ sizeLine) (h : PostD g ρ F m H (.ok (.ref m.length) (m.new (.lst l))) Q E) (M : MRel g ρ F m H) (r : RDs g ρ F m.length l vs) (ha : H a = none) : Q (.ref a) (upd H a (.lst vs)) := by
  obtain ⟨x, M', r'⟩ := step_new (o := .lst l) (ho := .lst vs) M ha ⟨hl, r⟩
  exact h _ _ _ _ x M' r'
theorem mkL_post {mu : Bool} {l : List D} {vs : List V} (hl : l.length ≤ sizeLine) (h : PostD g ρ F m H (mkL mu l m) Q E) (M : MRel g ρ F m H) (r : RDs g ρ F m.length l vs) : vs.length ≤ sizeLine ∧ ∀ a, H a = none → Q (.ref a) (upd H a (.lst vs)) := by
  unfold mkL at h
  refine ⟨by rw [← r.length]; exact hl, fun a ha => ?_⟩
  split at h
  · rename_i ps e
    have hp : ps.length ≤ sizeLine := by rw [allP_eq e, List.length_map] at hl; exact hl
    rw [allP_eq e] at r
    exact h.newLst hp M (RPs.of r) ha
  · exact h.newL hl M r ha
theorem mkT_post {l : List D} {vs : List V} (hl : l.length ≤ sizeLine) (h : PostD g ρ F m H (mkT l m) Q E) (M : MRel g ρ F m H) (r : RDs g ρ F m.length l vs) : vs.length ≤ sizeLine ∧ ∀ a, H a = none → Q (.ref a) (upd H a (.tup vs)) := by
  unfold mkT at h
  refine ⟨by rw [← r.length]; exact hl, fun a ha => ?_⟩
  split at h
  · rename_i ps e
    have hp : ps.length ≤ sizeLine := by rw [allP_eq e, List.length_map] at hl; exact hl
    rw [allP_eq e] at r
    exact h.newTup hp M (RPs.of r) ha
  · exact h.elim
/-- a length that was looked at -/
theorem lnS_post {α β : Type} {rel : Rho → Hp → Nat → α → β → Prop} {Q : β → Hp → Prop} {pl : Bool} {f : List D → Mem → R α} {l : List D} (hp : pl = true → l.length ≤ sizeLine) (h : Post g rel ρ F m H (lnS pl f l m) Q E) : l.length ≤ sizeLine ∧ Post g rel ρ F m H (f l m) Q E := by
  unfold lnS at h
  split at h
  · exact ⟨hp rfl, h⟩
  · split at h
    · rename_i hl; exact ⟨hl, h⟩
    · exact h.elim
theorem get_some {n : Nat} {o : MO} (h : m.get n = some o) : m[n]? = some (some o) := by
  unfold Mem.get at h
  cases e : m[n]? with
  | none => rw [e] at h; cases h
  | some x => rw [e] at h; cases x with
    | none => cases h
    | some y => cases h; rfl
/-- an object of the store, read -/
theorem MRel.look (M : MRel g ρ F m H) {n : Nat} {o : MO} {v : V} (e : m.get n = some o) (r : RD g ρ F m.length (.ref n) v) : ∃ ho, v = .ref (ρ n) ∧ H (ρ n) = some ho ∧ RMO g ρ F m.length o ho := by
  obtain ⟨_, ho, h1, h2⟩ := M.mem n o (get_some e)
  exact ⟨ho, r.2, h1, h2⟩
theorem rmo_lst {l : List D} {ho : HO} {k : Nat} (h : RMO g ρ F k (.lst l) ho) : ∃ vs, ho = .lst vs ∧ RDs g ρ F k l vs := by
  cases ho <;> first | exact ⟨_, rfl, h.2⟩ | exact (show False from h).elim
theorem rmo_dct {l : List (P × D)} {ho : HO} {k : Nat} (h : RMO g ρ F k (.dct l) ho) : ∃ vs, ho = .dK vs ∧ RDk g ρ F k l vs := by
  cases ho <;> first | exact ⟨_, rfl, h.2⟩ | exact (show False from h).elim
theorem rmo_line {l : List D} {ho : HO} {k : Nat} (h : RMO g ρ F k (.lst l) ho) : l.length ≤ sizeLine := by
  cases ho <;> first | exact h.1 | exact (show False from h).elim
theorem MRel.line (M : MRel g ρ F m H) {n : Nat} {l : List D} (e : m[n]? = some (some (.lst l))) : l.length ≤ sizeLine := by
  obtain ⟨_, ho, _, h⟩ := M.mem n _ e
  exact rmo_line h
theorem rmo_dcT {l : List (P × D)} {ho : HO} {k : Nat} (h : RMO g ρ F k (.dcT l) ho) : ∃ vs, ho = .dT vs ∧ RDt g ρ F k l vs := by
  cases ho <;> first | exact ⟨_, rfl, h.2⟩ | exact (show False from h).elim
theorem rmo_ins {c : Nat} {l : List (Nat × D)} {ho : HO} {k : Nat} (h : RMO g ρ F k (.ins c l) ho) : ∃ dx fs, ho = .ins (g.cA c) dx fs ∧ g.cs c = true ∧ RDf g ρ F k l fs := by
  cases ho with
  | ins C dx fs =>
    have h2 : (l.length ≤ 100 ∧ C = g.cA c ∧ g.cs c = true) ∧ RDf g ρ F k l fs := h
    exact ⟨dx, fs, by rw [h2.1.2.1], h2.1.2.2, h2.2⟩
  | _ => exact (show False from h).elim
theorem rmo_scr {l : List Int} {ho : HO} {k : Nat} (h : RMO g ρ F k (.scr l) ho) : ∃ o, ho = .frz o (.lst (l.map V.int)) := by
  cases ho with
  | frz o u => cases u <;> first | exact ⟨o, by rw [show _ = _ from h]⟩ | exact (show False from h).elim
  | _ => exact (show False from h).elim
theorem rdP_ok (M : MRel g ρ F m H) {d : D} {x : P} {v : V} (e : rdP m d = some x) (r : RD g ρ F m.length d v) : RP g H x v := by
  cases d with
  | p y => cases e; exact RP.up M.sub r
  | ref n =>
    have e' : (match m.get n with | some (.lst l) => (allP l).map P.lst | _ => none) = some x := e
    cases q : m.get n with
    | none => rw [q] at e'; cases e'
    | some o =>
      rw [q] at e'
      cases o with
      | lst l =>
        obtain ⟨ps, e1, e2⟩ := Option.map_eq_some_iff.mp (show (allP l).map P.lst = some x from e')
        obtain ⟨ho, rfl, h1, h2⟩ := M.look q r
        obtain ⟨vs, rfl, h3⟩ := rmo_lst h2
        rw [← e2]
        rw [allP_eq e1] at h3
        have hz := M.line (get_some q)
        rw [allP_eq e1, List.length_map] at hz
        exact .lst hz h1 (RPs.up M.sub (RPs.of h3))
      | _ => cases e'
/-- a sequence's items -/
theorem seqD_ok (M : MRel g ρ F m H) {d : D} {l : List D} {v : V} (e : seqD m d = some l) (r : RD g ρ F m.length d v) :
    ∃ a vs, l.length ≤ sizeLine ∧ v = .ref a ∧ RDs g ρ F m.length l vs ∧ ((H a = some (.lst vs) ∧ ((∃ ps, d = .p (.lst ps)) ∨ ∃ n, d = .ref n ∧ m.get n = some (.lst l))) ∨ (SqT g.K H a vs ∧ ∃ ps, d = .p (.tup ps) ∨ d = .p (.ktp ps))) := by
  cases d with
  | p y => cases y with
    | lst l' =>
      cases e
      cases r with
      | lst hz h t => exact ⟨_, _, by rw [List.length_map]; exact hz, rfl, RPs.ds t, .inl ⟨M.sub.lst h, .inl ⟨_, rfl⟩⟩⟩
    | tup l' =>
      cases e
      cases r with
      | tup hz h t => exact ⟨_, _, by rw [List.length_map]; exact hz, rfl, RPs.ds t, .inr ⟨SqT.of (M.sub.tup h), _, .inl rfl⟩⟩
    | ktp l' =>
      cases e
      cases r with
      | ktp hz h t => exact ⟨_, _, by rw [List.length_map]; exact hz, rfl, RPs.ds t, .inr ⟨h H, _, .inr rfl⟩⟩
    | _ => cases e
  | ref n =>
    have e' : (match m.get n with | some (.lst l) => some l | _ => none) = some l := e
    cases q : m.get n with
    | none => rw [q] at e'; cases e'
    | some o =>
      rw [q] at e'
      cases o with
      | lst l' =>
        cases e'
        obtain ⟨ho, rfl, h1, h2⟩ := M.look q r
        obtain ⟨vs, rfl, h3⟩ := rmo_lst h2
        exact ⟨_, _, M.line (get_some q), rfl, h3, .inl ⟨h1, .inr ⟨n, rfl, q⟩⟩⟩
      | _ => cases e'
mutual
theorem RP.dp {x : P} {v : V} : x.dat = true → RP g H x v → Dp g.K H v x.py
  | _, .non => .non
  | _, .bl b => .bl b
  | _, .int i => .int i
  | _, .str s _ => .str s
  | e, .tup _ h t => .tup (SqT.of h) (RPs.dp e t)
  | e, .lst _ h t => .lst (SqL.of h) (RPs.dp e t)
  | e, .dK _ _ _ => absurd e Bool.false_ne_true
  | e, .dT _ _ _ => absurd e Bool.false_ne_true
  | e, .ins _ _ _ => absurd e Bool.false_ne_true
  | e, .ktp _ _ _ => absurd e Bool.false_ne_true
  | e, .cls _ => absurd e Bool.false_ne_true
  | e, .scr _ _ => absurd e Bool.false_ne_true
theorem RPs.dp {l : List P} {vs : List V} : datL l = true → RPs g H l vs → DpAll g.K H vs (pyL l)
  | _, .nil => .nil
  | e, .cons h t => .cons (RP.dp (Bool.and_eq_true_iff.mp e).1 h) (RPs.dp (Bool.and_eq_true_iff.mp e).2 t)
end
theorem pyL_map (l : List P) : pyL l = l.map P.py := by
  induction l with
  | nil => rfl
  | cons x l ih => show x.py :: pyL l = _; rw [ih]; rfl
theorem strsP_eq : ∀ {l : List P} {ss : List Str}, strsP l = some ss → l = ss.map P.str
  | [], ss, e => by cases e; rfl
  | .str s :: l, ss, e => by
    obtain ⟨qs, e1, e2⟩ := Option.map_eq_some_iff.mp (show (strsP l).map (s :: ·) = some ss from e)
    subst e2; rw [strsP_eq e1]; rfl
  | .non :: _, _, e => by cases e
  | .bl _ :: _, _, e => by cases e
  | .int _ :: _, _, e => by cases e
  | .tup _ :: _, _, e => by cases e
  | .lst _ :: _, _, e => by cases e
  | .dct _ _ :: _, _, e => by cases e
  | .ins _ _ :: _, _, e => by cases e
  | .ktp _ :: _, _, e => by cases e
  | .scr _ :: _, _, e => by cases e
  | .cls _ :: _, _, e => by cases e
theorem intsP_eq : ∀ {l : List P} {ss : List Int}, intsP l = some ss → l = ss.map P.int
  | [], ss, e => by cases e; rfl
  | .int s :: l, ss, e => by
    obtain ⟨qs, e1, e2⟩ := Option.map_eq_some_iff.mp (show (intsP l).map (s :: ·) = some ss from e)
    subst e2; rw [intsP_eq e1]; rfl
  | .non :: _, _, e => by cases e
  | .bl _ :: _, _, e => by cases e
  | .str _ :: _, _, e => by cases e
  | .tup _ :: _, _, e => by cases e
  | .lst _ :: _, _, e => by cases e
  | .dct _ _ :: _, _, e => by cases e
  | .ins _ _ :: _, _, e => by cases e
  | .ktp _ :: _, _, e => by cases e
  | .scr _ :: _, _, e => by cases e
  | .cls _ :: _, _, e => by cases e
theorem blsP_eq : ∀ {l : List P} {ss : List Bool}, blsP l = some ss → l = ss.map P.bl
  | [], ss, e => by cases e; rfl
  | .bl s :: l, ss, e => by
    obtain ⟨qs, e1, e2⟩ := Option.map_eq_some_iff.mp (show (blsP l).map (s :: ·) = some ss from e)
    subst e2; rw [blsP_eq e1]; rfl
  | .non :: _, _, e => by cases e
  | .int _ :: _, _, e => by cases e
  | .str _ :: _, _, e => by cases e
  | .tup _ :: _, _, e => by cases e
  | .lst _ :: _, _, e => by cases e
  | .dct _ _ :: _, _, e => by cases e
  | .ins _ _ :: _, _, e => by cases e
  | .ktp _ :: _, _, e => by cases e
  | .scr _ :: _, _, e => by cases e
  | .cls _ :: _, _, e => by cases e
theorem RPs.strs : ∀ {ss : List Str} {vs : List V}, RPs g H (ss.map P.str) vs → vs = ss.map V.str
  | [], _, h => by cases h; rfl
  | _ :: _, _, h => by cases h with | cons h t => cases h; rw [RPs.strs t]; rfl
theorem RPs.ints : ∀ {ss : List Int} {vs : List V}, RPs g H (ss.map P.int) vs → vs = ss.map V.int
  | [], _, h => by cases h; rfl
  | _ :: _, _, h => by cases h with | cons h t => cases h; rw [RPs.ints t]; rfl
theorem RPs.bls : ∀ {ss : List Bool} {vs : List V}, RPs g H (ss.map P.bl) vs → vs = ss.map V.bl
  | [], _, h => by cases h; rfl
  | _ :: _, _, h => by cases h with | cons h t => cases h; rw [RPs.bls t]; rfl
theorem RPs.ofInts (ss : List Int) : RPs g H (ss.map P.int) (ss.map V.int) := by
  induction ss with
  | nil => exact .nil
  | cons i l ih => exact .cons (.int i) ih
theorem RPs.take {l : List P} {vs : List V} (n : Nat) (h : RPs g H l vs) : RPs g H (l.take n) (vs.take n) := by
  induction n generalizing l vs with
  | zero => exact .nil
  | succ n ih => cases h with
    | nil => exact .nil
    | cons h t => exact .cons h (ih t)
theorem RPs.drop {l : List P} {vs : List V} (n : Nat) (h : RPs g H l vs) : RPs g H (l.drop n) (vs.drop n) := by
  induction n generalizing l vs with
  | zero => exact h
  | succ n ih => cases h with
    | nil => exact .nil
    | cons h t => exact ih t
theorem RPs.append {l r : List P} {vs us : List V} (h : RPs g H l vs) (k : RPs g H r us) : RPs g H (l ++ r) (vs ++ us) := by
  induction l generalizing vs with
  | nil => cases h; exact k
  | cons x l ih => cases h with | cons h t => exact .cons h (ih t)
theorem RPs.rev : ∀ {l : List P} {vs : List V}, RPs g H l vs → RPs g H l.reverse vs.reverse
  | _, _, .nil => .nil
  | _, _, .cons h t => by
    rw [List.reverse_cons, List.reverse_cons]
    exact RPs.append (RPs.rev t) (.cons h .nil)
theorem RPs.rep {l : List P} {vs : List V} (h : RPs g H l vs) (n : Nat) : RPs g H (List.replicate n l).flatten (List.replicate n vs).flatten := by
  induction n with
  | zero => exact .nil
  | succ n ih =>
    rw [List.replicate_succ, List.replicate_succ, List.flatten_cons, List.flatten_cons]
    exact RPs.append h ih
theorem RPs.repLen {α : Type} {l : List α} (n : Nat) : (List.replicate n l).flatten.length = l.length * n := by
  induction n with
  | zero => simp
  | succ n ih => rw [List.replicate_succ, List.flatten_cons, List.length_append, ih, Nat.mul_succ, Nat.add_comm]
theorem RPs.nilIff {l : List P} {vs : List V} (h : RPs g H l vs) : l = [] ↔ vs = [] := by cases h <;> simp
theorem flat_ok {x : P} {v : V} (h : RP g H x v) (f : flatP x = true) : flatV v = true := by cases h <;> first | rfl | exact absurd f Bool.false_ne_true
theorem flats_ok : ∀ {l : List P} {vs : List V}, RPs g H l vs → l.all flatP = true → vs.all flatV = true
  | _, _, .nil, _ => rfl
  | _, _, .cons h t, f => by
    rw [List.all_cons, Bool.and_eq_true] at f
    rw [List.all_cons, flat_ok h f.1, flats_ok t f.2]; rfl
theorem eqv_flat {x y : P} {v u : V} (h : RP g H x v) (k : RP g H y u) (f : flatP x = true) (f' : flatP y = true) : eqV v u = PyData.eqv x.py y.py := by
  cases h <;> cases k <;> first | rfl | exact absurd f Bool.false_ne_true | exact absurd f' Bool.false_ne_true
theorem inV_ok {x : P} {v : V} (h : RP g H x v) (f : flatP x = true) : ∀ {l : List P} {vs : List V}, RPs g H l vs → l.all flatP = true → inV v vs = l.any fun z => PyData.eqv z.py x.py
  | _, _, .nil, _ => rfl
  | _, _, .cons k t, f' => by
    rw [List.all_cons, Bool.and_eq_true] at f'
    have ih := inV_ok h f t f'.2
    unfold inV at ih ⊢
    rw [List.any_cons, List.any_cons, eqv_flat k h f'.1 f, ih]
end

/-- readings by values -/
def rd2 (g : Gn) (sem : D → D → Mem → R D) : R2 := fun x y H Q => ∃ d e m ρ F E, MRel g ρ F m H ∧ RD g ρ F m.length d x ∧ RD g ρ F m.length e y ∧ PostD g ρ F m H (sem d e m) Q E
def rdN (g : Gn) (sem : List D → Mem → R D) : List V → Hp → VK → Prop := fun xs H Q => ∃ ds m ρ F E, MRel g ρ F m H ∧ RDs g ρ F m.length ds xs ∧ PostD g ρ F m H (sem ds m) Q E
def rdM (g : Gn) (sem : D → List D → Mem → R D) : V → List V → Hp → VK → Prop := fun x xs H Q => ∃ d ds m ρ F E, MRel g ρ F m H ∧ RD g ρ F m.length d x ∧ RDs g ρ F m.length ds xs ∧ PostD g ρ F m H (sem d ds m) Q E

def bO : BOp → Operator
  | .add => .Add | .sub => .Sub | .mul => .Mult | .mod => .Mod | .fdiv => .FloorDiv | .pow => .Pow
def cO : COp → CmpOp
  | .eq => .Eq | .ne => .NotEq | .lt => .Lt | .le => .LtE | .gt => .Gt | .ge => .GtE | .isn => .Is | .notn => .IsNot | .inn => .In | .nin => .NotIn

section
variable {X : Cx} {g : Gn}
theorem bin_ok (hK : X.K = g.K) (o : BOp) : OpR X (binaryOp (bO o)) (rd2 g (binS o)) := by
  rintro pins s σ H x y v u Q I rx ry ⟨d, e, m, ρ, F, E, M, hd, he, h⟩
  unfold binS at h
  split at h
  · cases hd; cases he
    exact op_add pins s σ H _ _ v u Q I rx ry ⟨_, _, rfl, rfl, h.val M (RP.int _)⟩
  · cases hd; cases he
    exact op_sub pins s σ H _ _ v u Q I rx ry ⟨_, _, rfl, rfl, h.val M (RP.int _)⟩
  · cases hd; cases he
    split at h
    · rename_i c
      refine op_mul pins s σ H _ _ v u Q I rx ry ⟨_, _, rfl, rfl, ?_, h.val M (RP.int _)⟩
      unfold mulOk at c
      simpa [CMul] using c
    · exact h.elim
  · cases hd; cases he
    split at h
    · rename_i c
      exact op_mod pins s σ H _ _ v u Q I rx ry ⟨_, _, rfl, rfl, c, h.val M (RP.int _)⟩
    · exact h.elim
  · cases hd; cases he
    split at h
    · rename_i c
      exact op_fdiv pins s σ H _ _ v u Q I rx ry ⟨_, _, rfl, rfl, c, h.val M (RP.int _)⟩
    · exact h.elim
  · cases hd; cases he
    split at h
    · rename_i c
      exact op_pow pins s σ H _ _ v u Q I rx ry ⟨_, _, rfl, rfl, c, h.val M (RP.int _)⟩
    · exact h.elim
  · cases hd; cases he
    split at h
    · rename_i c
      exact op_add_str pins s σ H _ _ v u Q I rx ry ⟨_, _, rfl, rfl, c, h.val M (RP.str _ (by rw [Str.length_append]; exact c))⟩
    · exact h.elim
  · cases hd with
    | tup z1 h1 t1 => cases he with
      | tup z2 h2 t2 =>
        split at h
        · rename_i c
          refine op_catA pins s σ H _ _ v u Q I rx ry ⟨_, _, _, _, rfl, rfl, SqT.of (M.sub.tup h1), SqT.of (M.sub.tup h2), by rw [← t1.length, ← t2.length]; exact c, fun z => ?_, fun _ z => ?_, fun _ _ p hp => h.newTup (by rw [List.length_append]; exact c) M (t1.append t2) hp⟩
          · have z' := t1.nilIff.mpr z
            subst z'
            rw [List.nil_append] at h
            exact h.val M (RP.tup z2 h2 t2)
          · have z' := t2.nilIff.mpr z
            subst z'
            rw [List.append_nil] at h
            exact h.val M (RP.tup z1 h1 t1)
        · exact h.elim
  · cases hd with
    | lst z1 h1 t1 =>
      cases he
      split at h
      · rename_i c
        exact op_rep pins s σ H _ _ v u Q I rx ry ⟨_, _, _, rfl, rfl, M.sub.lst h1, c.1, c.2.1, by rw [← t1.length]; exact c.2.2, fun p hp => h.newLst (by rw [RPs.repLen]; exact c.2.2) M (t1.rep _) hp⟩
      · exact h.elim
  · unfold catS at h
    split at h
    · exact h.elim
    · rename_i nt
      split at h
      · rename_i l1 l2 e1 e2
        split at h
        · rename_i c
          obtain ⟨a, vs, _, rfl, r1, q1⟩ := seqD_ok M e1 hd
          obtain ⟨b, us, _, rfl, r2, q2⟩ := seqD_ok M e2 he
          rcases q1 with ⟨k1, _⟩ | ⟨_, ps, z⟩
          · rcases q2 with ⟨k2, _⟩ | ⟨_, ps, z⟩
            · obtain ⟨z1, z2⟩ := mkL_post (by rw [List.length_append]; exact c) h M (r1.append r2)
              exact op_cat pins s σ H _ _ v u Q I rx ry ⟨_, _, _, _, rfl, rfl, k1, k2, by rw [List.length_append] at z1; exact z1, fun p hp => z2 p hp⟩
            · rcases z with z | z <;> (subst z; exact absurd (by simp [isTupD]) nt)
          · rcases z with z | z <;> (subst z; exact absurd (by simp [isTupD]) nt)
        · exact h.elim
      · exact h.elim
  · exact h.elim
end
end Dn

/-! Dn, part E: comparisons, subscripts, calls of built-ins, by values. -/
namespace Dn
open PySem PySem.Spec PyProof.Rows L2
section
variable {X : Cx} {g : Gn} {ρ : Rho} {F H : Hp} {m : Mem} {Q : VK} {E : XK}
theorem isN_ok {k : Nat} {d : D} {v : V} (r : RD g ρ F k d v) : isN d = decide (v = .non) := by
  cases d with
  | p x => cases r <;> simp [isN]
  | ref n => obtain ⟨_, rfl⟩ := r; simp [isN]
theorem isN_v {k : Nat} {d : D} {v : V} (r : RD g ρ F k d v) (h : isN d = true) : v = .non := by
  rw [isN_ok r] at h
  exact of_decide_eq_true h
theorem shp_dat {x : P} (h : x.shp = true) : x.dat = true := (Bool.and_eq_true_iff.mp h).1
theorem shp_sh {x : P} (h : x.shp = true) : SeqAt.shaped x.py = true := (Bool.and_eq_true_iff.mp h).2
theorem key_v {x : P} {κ : Key} {v : V} (e : keyP x = some κ) (r : RP g H x v) : v = kV κ := by
  cases r <;> first | (cases e; rfl) | cases e
theorem keys_v : ∀ {l : List P} {κ : List Key} {vs : List V}, keysP l = some κ → RPs g H l vs → vs = κ.map kV
  | [], κ, _, e, .nil => by cases e; rfl
  | x :: l, κ, _, e, .cons r t => by
    unfold keysP at e
    cases e1 : keyP x with
    | none => rw [e1] at e; cases e
    | some k =>
      cases e2 : keysP l with
      | none => rw [e1, e2] at e; cases e
      | some ks =>
        rw [e1, e2] at e
        cases e
        rw [key_v e1 r, keys_v e2 t]
        rfl
theorem keyT_v {x : P} {κ : List Key} {v : V} (e : keyT x = some κ) (r : RP g H x v) : ∃ b, v = .ref b ∧ H b = some (.tup (κ.map kV)) := by
  cases x with
  | tup l => cases r with
    | tup _ h t => exact ⟨_, rfl, by rw [h, keys_v e t]⟩
  | _ => cases e
def OptR (g : Gn) (H : Hp) (o : Option P) (w : Option V) : Prop := match o with
  | some x => ∃ z, w = some z ∧ RP g H x z
  | none => w = none
theorem find_k {κ : Key} : ∀ {l : List (P × P)} {kvs : List (Key × V)}, RPk g H l kvs → OptR g H ((l.find? fun kv => decide (keyP kv.1 = some κ)).map (·.2)) (valV kvs κ)
  | _, _, .nil => rfl
  | _, _, @RPk.cons _ _ k x κ' v l vs e _ r t => by
    rw [List.find?_cons]
    have hv : valV ((κ', v) :: vs) κ = if κ' = κ then some v else valV vs κ := by
      unfold valV
      rw [List.find?_cons]
      by_cases h : κ' = κ
      · simp [h]
      · simp [h]
    by_cases h : κ' = κ
    · subst h
      simp only [e, decide_true]
      exact ⟨v, by rw [hv, if_pos rfl], r⟩
    · have : decide (keyP k = some κ) = false := by rw [e]; exact decide_eq_false (fun z => h (Option.some.inj z))
      simp only [this]
      rw [hv, if_neg h]
      exact find_k t
theorem find_t {κ : List Key} : ∀ {l : List (P × P)} {kvs : List (List Key × V)}, RPt g H l kvs → OptR g H ((l.find? fun kv => decide (keyT kv.1 = some κ)).map (·.2)) (valV kvs κ)
  | _, _, .nil => rfl
  | _, _, @RPt.cons _ _ k x κ' v l vs e _ r t => by
    rw [List.find?_cons]
    have hv : valV ((κ', v) :: vs) κ = if κ' = κ then some v else valV vs κ := by
      unfold valV
      rw [List.find?_cons]
      by_cases h : κ' = κ
      · simp [h]
      · simp [h]
    by_cases h : κ' = κ
    · subst h
      simp only [e, decide_true]
      exact ⟨v, by rw [hv, if_pos rfl], r⟩
    · have : decide (keyT k = some κ) = false := by rw [e]; exact decide_eq_false (fun z => h (Option.some.inj z))
      simp only [this]
      rw [hv, if_neg h]
      exact find_t t
/-- a dict's item -/
theorem dget_ok {t : Bool} {l : List (P × P)} {k : P} {o : Option P} {v u : V} (s : Sub F H) (e : dget t l k = some o) (r : RP g F (.dct t l) v) (rk : RP g H k u) : ∃ a w, v = .ref a ∧ DGet H a u w ∧ OptR g F o w := by
  cases r with
  | dK _ h t =>
    unfold dget at e
    cases ek : keyP k with
    | none => rw [ek] at e; cases e
    | some κ =>
      rw [ek] at e
      cases e
      exact ⟨_, _, rfl, .inl ⟨_, κ, s.rd (.inl ⟨_, rfl⟩) h, key_v ek rk, rfl⟩, find_k t⟩
  | dT _ h t =>
    unfold dget at e
    cases ek : keyT k with
    | none => rw [ek] at e; cases e
    | some κ =>
      rw [ek] at e
      cases e
      obtain ⟨b, rfl, hb⟩ := keyT_v ek rk
      exact ⟨_, _, rfl, .inr ⟨_, κ, b, s.rd (.inr ⟨_, rfl⟩) h, rfl, hb, rfl⟩, find_t t⟩
theorem oB_ok {o : Option Bool} (h : PostD g ρ F m H (oB o m) Q E) (M : MRel g ρ F m H) : ∃ b, o = some b ∧ Q (.bl b) H := by
  cases o with
  | none => exact h.elim
  | some b => exact ⟨b, rfl, h.val M (RP.bl b)⟩
theorem eqP_ok {x y : P} {b : Bool} (e : eqP x y = some b) : (∃ z w, x = .str z ∧ y = .str w ∧ b = decide (z = w)) ∨ (x.shp = true ∧ y.shp = true ∧ b = PyData.eqv x.py y.py) := by
  unfold eqP at e
  split at e
  · cases e
    exact .inl ⟨_, _, rfl, rfl, rfl⟩
  · split at e
    · rename_i c
      obtain ⟨c1, c2⟩ := Bool.and_eq_true_iff.mp c
      cases e
      exact .inr ⟨c1, c2, rfl⟩
    · cases e
/-- in, by the answer -/
theorem in_run (hK : X.K = g.K) (hu : X.A.units + 65 < cLine) (neg : Bool) {pins : List (Addr × Obj)} {s : Shared} {σ : L2.St} {x y : P} {a b : V} {v u : Value} {c : Bool} (I : Inv X pins σ H s) (ra : RelV a v) (rb : RelV b u) (rx : RP g H x a) (ry : RP g H y b)
    (e : inP x y = some c) (q : Q (.bl (if neg then !c else c)) H) : wpAny (model X.prog X.w) X.A (compareOp (if neg then .NotIn else .In) v u) (EP X pins σ Q) X.xe s := by
  cases y with
  | str w =>
    cases x with
    | str z =>
      cases rx; cases ry
      cases e
      by_cases h1 : ∃ c, z.cps.toList = [c]
      · obtain ⟨cc, hc⟩ := h1
        have hq : hasS w z = decide (cc ∈ w.cps.toList) := by unfold hasS; rw [hc]
        have hz : z = ⟨#[cc]⟩ := by
          obtain ⟨arr⟩ := z
          rw [← Array.toList_inj.mp (show arr.toList = (#[cc] : Array Nat).toList from hc)]
        rw [hq] at q
        subst hz
        cases neg with
        | false => exact op_in_sign pins s σ H _ _ v u Q I ra rb ⟨_, _, rfl, rfl, q⟩
        | true => exact op_notIn_sign pins s σ H _ _ v u Q I ra rb ⟨_, _, rfl, rfl, q⟩
      · have hq : hasS w z = !(Builtin.Str.occurrences w z 0 w.length 1).isEmpty := by
          unfold hasS
          split
          · rename_i c hc; exact absurd ⟨c, hc⟩ h1
          · rfl
        rw [hq] at q
        cases neg with
        | false => exact op_in_str pins s σ H _ _ v u Q I ra rb ⟨_, _, rfl, rfl, q⟩
        | true => exact op_notIn_str pins s σ H _ _ v u Q I ra rb ⟨_, _, rfl, rfl, q⟩
    | _ => cases e
  | lst l =>
    have e : (if x.shp && (P.lst l).shp then some (l.any fun z => PyData.eqv z.py x.py) else none) = some c := e
    split at e
    · rename_i c'
      obtain ⟨c1, c2⟩ := Bool.and_eq_true_iff.mp c'
      cases e
      have d1 : Dp X.K H a x.py := by rw [hK]; exact RP.dp (shp_dat c1) rx
      have d2 : Dp X.K H b (.list (pyL l)) := by rw [hK]; exact RP.dp (x := .lst l) (shp_dat c2) ry
      have ea : ((pyL l).any fun z => PyData.eqv z x.py) = l.any fun z => PyData.eqv z.py x.py := by rw [pyL_map, List.any_map]; rfl
      cases neg with
      | false => exact op_inD hu pins s σ H _ _ v u Q I ra rb ⟨_, _, d1, d2, shp_sh c1, shp_sh (x := .lst l) c2, by rw [ea]; exact q⟩
      | true => exact op_notInD hu pins s σ H _ _ v u Q I ra rb ⟨_, _, d1, d2, shp_sh c1, shp_sh (x := .lst l) c2, by rw [ea]; exact q⟩
    · cases e
  | tup l =>
    have e : (if flatP x && l.all flatP then some (l.any fun z => PyData.eqv z.py x.py) else none) = some c := e
    split at e
    · rename_i c'
      obtain ⟨c1, c2⟩ := Bool.and_eq_true_iff.mp c'
      cases e
      cases ry with
      | tup _ h t =>
        have ei := inV_ok rx c1 t c2
        cases neg with
        | false => exact op_in_seq pins s σ H _ _ v u Q I ra rb ⟨_, _, rfl, .inr (SqT.of h), flat_ok rx c1, flats_ok t c2, by rw [ei]; exact q⟩
        | true => exact op_notIn_seq pins s σ H _ _ v u Q I ra rb ⟨_, _, rfl, .inr (SqT.of h), flat_ok rx c1, flats_ok t c2, by rw [ei]; exact q⟩
    · cases e
  | ktp l =>
    have e : (if flatP x && l.all flatP then some (l.any fun z => PyData.eqv z.py x.py) else none) = some c := e
    split at e
    · rename_i c'
      obtain ⟨c1, c2⟩ := Bool.and_eq_true_iff.mp c'
      cases e
      cases ry with
      | ktp _ h t =>
        have ei := inV_ok rx c1 t c2
        cases neg with
        | false => exact op_in_seq pins s σ H _ _ v u Q I ra rb ⟨_, _, rfl, .inr (by rw [hK]; exact h H), flat_ok rx c1, flats_ok t c2, by rw [ei]; exact q⟩
        | true => exact op_notIn_seq pins s σ H _ _ v u Q I ra rb ⟨_, _, rfl, .inr (by rw [hK]; exact h H), flat_ok rx c1, flats_ok t c2, by rw [ei]; exact q⟩
    · cases e
  | dct t l =>
    obtain ⟨o, e1, e2⟩ := Option.map_eq_some_iff.mp (show (dget t l x).map (·.isSome) = some c from e)
    obtain ⟨p, w, rfl, dg, hw⟩ := dget_ok (Sub.of fun _ _ h => h) e1 ry rx
    have ew : w.isSome = c := by
      rw [← e2]
      cases o with
      | none => rw [show w = none from hw]; rfl
      | some x => obtain ⟨z, hz, _⟩ := hw; rw [hz]; rfl
    cases (show u = Value.ref p from rb)
    cases neg with
    | false => exact d_in (by omega) I dg ra fun s3 I3 => ⟨.bl w.isSome, H, I3, rfl, by rw [ew]; exact q⟩
    | true => exact d_notIn (by omega) I dg ra fun s3 I3 => ⟨.bl (!w.isSome), H, I3, rfl, by rw [ew]; exact q⟩
  | _ => cases e

theorem cmpB_ok {f : P → P → Option Bool} {d e : D} {x y : V} (M : MRel g ρ F m H) (hd : RD g ρ F m.length d x) (he : RD g ρ F m.length e y) (h : PostD g ρ F m H (cmpB f d e m) Q E) :
    ∃ a b c, RP g H a x ∧ RP g H b y ∧ f a b = some c ∧ Q (.bl c) H := by
  unfold cmpB at h
  split at h
  · rename_i a b e1 e2
    obtain ⟨c, ec, q⟩ := oB_ok h M
    exact ⟨a, b, c, rdP_ok M e1 hd, rdP_ok M e2 he, ec, q⟩
  · exact h.elim
theorem cmp_ok (hK : X.K = g.K) (hu : X.A.units + 65 < cLine) (o : COp) : OpR X (compareOp (cO o)) (rd2 g (cmpS o)) := by
  rintro pins s σ H x y v u Q I rx ry ⟨d, e, m, ρ, F, E, M, hd, he, h⟩
  cases o with
  | isn =>
    have h : PostD g ρ F m H (if isN e then .ok (.p (.bl (isN d))) m else .no) Q E := h
    split at h
    · rename_i c
      exact op_isN pins s σ H _ _ v u Q I rx ry ⟨isN_v he c, by rw [← isN_ok hd]; exact h.val M (RP.bl _)⟩
    · exact h.elim
  | notn =>
    have h : PostD g ρ F m H (if isN e then .ok (.p (.bl (!isN d))) m else .no) Q E := h
    split at h
    · rename_i c
      exact op_notN pins s σ H _ _ v u Q I rx ry ⟨isN_v he c, by rw [← isN_ok hd]; exact h.val M (RP.bl _)⟩
    · exact h.elim
  | eq =>
    obtain ⟨a, b, c, r1, r2, ec, q⟩ := cmpB_ok M hd he h
    rcases eqP_ok ec with ⟨z, z', rfl, rfl, rfl⟩ | ⟨s1, s2, rfl⟩
    · cases r1; cases r2
      exact op_eq pins s σ H _ _ v u Q I rx ry ⟨rfl, by simpa using q⟩
    exact op_eqD (by omega) pins s σ H _ _ v u Q I rx ry ⟨_, _, by rw [hK]; exact RP.dp (shp_dat s1) r1, by rw [hK]; exact RP.dp (shp_dat s2) r2, shp_sh s1, shp_sh s2, q⟩
  | ne =>
    obtain ⟨a, b, c, r1, r2, ec, q⟩ := cmpB_ok M hd he h
    obtain ⟨c', ec', rfl⟩ := Option.map_eq_some_iff.mp ec
    rcases eqP_ok ec' with ⟨z, z', rfl, rfl, rfl⟩ | ⟨s1, s2, rfl⟩
    · cases r1; cases r2
      exact op_ne pins s σ H _ _ v u Q I rx ry ⟨rfl, by simpa using q⟩
    exact op_neD (by omega) pins s σ H _ _ v u Q I rx ry ⟨_, _, by rw [hK]; exact RP.dp (shp_dat s1) r1, by rw [hK]; exact RP.dp (shp_dat s2) r2, shp_sh s1, shp_sh s2, q⟩
  | lt =>
    obtain ⟨a, b, c, r1, r2, ec, q⟩ := cmpB_ok M hd he h
    unfold ltP at ec
    split at ec
    · cases r1; cases r2; cases ec
      exact op_lt pins s σ H _ _ v u Q I rx ry ⟨_, _, rfl, rfl, q⟩
    · cases r1; cases r2; cases ec
      exact op_lt_str pins s σ H _ _ v u Q I rx ry ⟨_, _, rfl, rfl, q⟩
    · cases ec
  | gt =>
    obtain ⟨a, b, c, r1, r2, ec, q⟩ := cmpB_ok M hd he h
    unfold ltP at ec
    split at ec
    · cases r1; cases r2; cases ec
      exact op_gt pins s σ H _ _ v u Q I rx ry ⟨_, _, rfl, rfl, q⟩
    · cases r1; cases r2; cases ec
      exact op_gt_str pins s σ H _ _ v u Q I rx ry ⟨_, _, rfl, rfl, q⟩
    · cases ec
  | le =>
    obtain ⟨a, b, c, r1, r2, ec, q⟩ := cmpB_ok M hd he h
    unfold leP at ec
    split at ec
    · cases r1; cases r2; cases ec
      exact op_le pins s σ H _ _ v u Q I rx ry ⟨_, _, rfl, rfl, q⟩
    · cases ec
  | ge =>
    obtain ⟨a, b, c, r1, r2, ec, q⟩ := cmpB_ok M hd he h
    unfold leP at ec
    split at ec
    · cases r1; cases r2; cases ec
      exact op_ge pins s σ H _ _ v u Q I rx ry ⟨_, _, rfl, rfl, q⟩
    · cases ec
  | inn =>
    obtain ⟨a, b, c, r1, r2, ec, q⟩ := cmpB_ok M hd he h
    exact in_run hK hu false I rx ry r1 r2 ec q
  | nin =>
    obtain ⟨a, b, c, r1, r2, ec, q⟩ := cmpB_ok M hd he h
    obtain ⟨c', ec', rfl⟩ := Option.map_eq_some_iff.mp ec
    exact in_run hK hu true I rx ry r1 r2 ec' q
end
end Dn

/-! Dn, part F: kinds, subscripts, calls of built-ins, by values. -/
namespace Dn
open PySem PySem.Spec PyProof.Rows L2

def tyV (g : Gn) : Ty → V
  | .own c => .ref (g.cA c)
  | t => .ty (tyS t)
def tyU (g : Gn) : Ty → Value
  | .own c => .ref (g.cA c)
  | t => .type (tyS t)
/-- what the kinds of built-in values are called -/
def bts : List String := ["NoneType", "bool", "int", "str", "list", "tuple", "dict"]
/-- what is known of the classes of the text -/
structure Kf (g : Gn) : Prop where
  inj : ∀ a b, g.fN a = g.fN b → a = b
  cls : ∀ c, g.cs c = true → Cls g.K (g.cA c)
  nf : ∀ c d, g.cs c = true → g.cs d = true → PySem.W.notFirst g.K (g.cA c) (.ref (g.cA d)) = true
  co : ∀ c, g.cs c = true → PySem.W.findIn g.K (.ref (g.cA c)) "__class__" = some (some (.builtin "object.__class__"))
  cg : ∀ c, g.cs c = true → PySem.W.specialIn g.K (.builtin "object.__class__") "__get__" = some (some (.builtin "getset_descriptor.__get__"))
  ct : ∀ c, g.cs c = true → PySem.W.takesIn g.K (.builtin "object.__class__") = some true
  cm : ∀ c, g.cs c = true → PySem.W.mroIn g.K (g.cA c) (.type "object") = some true
  k1 : ∀ c, g.cs c = true → ∀ t ∈ bts, PySem.W.kitOne g.K (.type t) (.ref (g.cA c)) = some false
  k2 : ∀ c d, g.cs c = true → g.cs d = true → PySem.W.kitOne g.K (.ref (g.cA d)) (.ref (g.cA c)) = some (decide (c = d))
  k3 : ∀ c, g.cs c = true → ∀ t ∈ bts, PySem.W.kitOne g.K (.ref (g.cA c)) (.type t) = some false
section
variable {X : Cx} {g : Gn} {ρ : Rho} {F H : Hp} {m : Mem} {Q : VK} {E : XK}
def kindU (g : Gn) : Nat ⊕ String → Value
  | .inl c => .ref (g.cA c)
  | .inr s => .type s
theorem kind_ok (hk : Kf g) (M : MRel g ρ F m H) {d : D} {v : V} {k : Nat ⊕ String} (r : RD g ρ F m.length d v) (e : kindS d m = some k) : TyX g.K H v (kindU g k) ∧ (∀ c, k = .inl c → g.cs c = true) ∧ ∀ s, k = .inr s → s ∈ bts := by
  cases d with
  | p x =>
    have r := RP.up M.sub (show RP g F x v from r)
    cases r with
    | non => cases e; exact ⟨.base .non, (fun _ z => by cases z), fun s z => by cases z; decide⟩
    | bl b => cases e; exact ⟨.base (.bl b), (fun _ z => by cases z), fun s z => by cases z; decide⟩
    | int i => cases e; exact ⟨.base (.int i), (fun _ z => by cases z), fun s z => by cases z; decide⟩
    | str z _ => cases e; exact ⟨.base (.str z), (fun _ z => by cases z), fun s z => by cases z; decide⟩
    | tup _ h t => cases e; exact ⟨.base (.tup h), (fun _ z => by cases z), fun s z => by cases z; decide⟩
    | lst _ h t => cases e; exact ⟨.base (.lst h), (fun _ z => by cases z), fun s z => by cases z; decide⟩
    | dK _ h t =>
      cases e
      refine ⟨?_, (fun _ z => by cases z), fun s z => by cases z; decide⟩
      rcases h with h | ⟨o, h⟩
      · exact .base (.dK h)
      · exact .fDict h
    | dT _ h t => cases e
    | ins z h t => cases e; exact ⟨.base (.ins h (hk.cls _ z) (hk.co _ z) (hk.cg _ z) (hk.ct _ z) (hk.cm _ z)), (fun c q => by cases q; exact z), (fun s z => by cases z)⟩
    | ktp _ h t => cases e
    | scr _ h => cases e
    | cls h => cases e
  | ref n =>
    have e' : (match m.get n with | some (.lst _) => some (Sum.inr "list") | some (.dct _) => some (.inr "dict") | some (.dcT _) => some (.inr "dict") | some (.ins k _) => some (.inl k) | _ => none) = some k := e
    cases q : m.get n with
    | none => rw [q] at e'; cases e'
    | some o =>
      rw [q] at e'
      obtain ⟨ho, rfl, h1, h2⟩ := M.look q r
      cases o with
      | lst l =>
        cases e'
        obtain ⟨vs, rfl, _⟩ := rmo_lst h2
        exact ⟨.base (.lst h1), (fun _ z => by cases z), fun s z => by cases z; decide⟩
      | dct l =>
        cases e'
        obtain ⟨vs, rfl, _⟩ := rmo_dct h2
        exact ⟨.base (.dK h1), (fun _ z => by cases z), fun s z => by cases z; decide⟩
      | dcT l =>
        cases e'
        obtain ⟨vs, rfl, _⟩ := rmo_dcT h2
        exact ⟨.base (.dT h1), (fun _ z => by cases z), fun s z => by cases z; decide⟩
      | ins c l =>
        cases e'
        obtain ⟨dx, fs, rfl, z, _⟩ := rmo_ins h2
        exact ⟨.base (.ins h1 (hk.cls _ z) (hk.co _ z) (hk.cg _ z) (hk.ct _ z) (hk.cm _ z)), (fun c q => by cases q; exact z), (fun s z => by cases z)⟩
      | scr l => cases e'
def tyOk (g : Gn) : Ty → Bool
  | .own c => g.cs c
  | _ => true
theorem isTy_kind {c : Ty} {d : D} {m : Mem} {b : Bool} (e : isTy c d m = some b) : ∃ k, kindS d m = some k ∧ b = isK c k := by
  obtain ⟨k, e1, e2⟩ := Option.map_eq_some_iff.mp (show (kindS d m).map (isK c) = some b from e)
  exact ⟨k, e1, e2.symm⟩
theorem kit_bts : ∀ s ∈ bts, ∀ c ∈ [Ty.int, .bool, .str, .list, .tuple, .dict], kitB s (tyS c) = some (isK c (.inr s)) := by decide +kernel
theorem kit_ok (hk : Kf g) {c : Ty} (hc : tyOk g c = true) {k : Nat ⊕ String} (h1 : ∀ c, k = .inl c → g.cs c = true) (h2 : ∀ s, k = .inr s → s ∈ bts) : PySem.W.kitOne g.K (kindU g k) (tyU g c) = some (isK c k) := by
  cases k with
  | inl j =>
    have hj := h1 j rfl
    cases c with
    | own c => exact hk.k2 c j hc hj
    | int => exact hk.k3 j hj "int" (by decide)
    | bool => exact hk.k3 j hj "bool" (by decide)
    | str => exact hk.k3 j hj "str" (by decide)
    | list => exact hk.k3 j hj "list" (by decide)
    | tuple => exact hk.k3 j hj "tuple" (by decide)
    | dict => exact hk.k3 j hj "dict" (by decide)
  | inr s =>
    have hs := h2 s rfl
    cases c with
    | own c => exact hk.k1 c hc s hs
    | int => exact kit_ty (kit_bts s hs .int (by simp))
    | bool => exact kit_ty (kit_bts s hs .bool (by simp))
    | str => exact kit_ty (kit_bts s hs .str (by simp))
    | list => exact kit_ty (kit_bts s hs .list (by simp))
    | tuple => exact kit_ty (kit_bts s hs .tuple (by simp))
    | dict => exact kit_ty (kit_bts s hs .dict (by simp))
theorem isTys_ok (hk : Kf g) {l : List Ty} {d : D} {b : Bool} (hl : l.all (tyOk g) = true) (M : MRel g ρ F m H) {v : V} (r : RD g ρ F m.length d v) (e : isTys l d m = some b) {k : Nat ⊕ String} (ek : kindS d m = some k) : PySem.W.kitAny g.K (kindU g k) (l.map (tyU g)) = some b := by
  obtain ⟨_, h1, h2⟩ := kind_ok hk M r ek
  induction l with
  | nil => cases e; rfl
  | cons c l ih =>
    rw [List.all_cons, Bool.and_eq_true] at hl
    unfold isTys at e
    split at e
    · rename_i ec
      cases e
      obtain ⟨k', e1, e2⟩ := isTy_kind ec
      rw [ek] at e1; cases e1
      exact kitAny_cons (b := true) (by rw [kit_ok hk hl.1 h1 h2, ← e2]) (fun z => nomatch z) (fun _ => rfl)
    · rename_i ec
      obtain ⟨k', e1, e2⟩ := isTy_kind ec
      rw [ek] at e1; cases e1
      exact kitAny_cons (b := false) (by rw [kit_ok hk hl.1 h1 h2, ← e2]) (fun _ => ih hl.2 e) (fun z => nomatch z)
    · cases e
/-- the classes that isinstance is given -/
theorem tys_cls (l : List Ty) : Paired ClsV (l.map (tyV g)) (l.map (tyU g)) := by
  induction l with
  | nil => exact .nil
  | cons c l ih => exact .cons (by cases c <;> first | exact .ty _ | exact .own _) ih

/-! ### subscripts -/
def rIxD : R2 := fun x y H Q => ∃ a v, x = .ref a ∧ DGet H a y (some v) ∧ Q v H
theorem ix_dict (hu : X.A.units + 1 < cLine) : IxR X rIxD := by
  rintro value slice pins s σ H x y v u Q I rx ry ⟨a, z, rfl, dg, q⟩ hs
  cases (show v = Value.ref a from rx)
  have hT := dict_typeIs I dg
  unfold subscriptTail
  refine wpAny_bind ?_
  rw [getitemInPython_of_ne hT.not_modules]
  refine wpAny_bind (wpAny_specialOf hT PySem.F.slot_dict_getitem.lookup ?_)
  have fin : wpAny (model X.prog X.w) X.A (subscripted slice false (.ref a) u) (fun r s₃ => wpAny (model X.prog X.w) X.A (letTemporaryGo value (.ref a) r >>= fun _ => pure r) (EP X pins σ Q) X.xe s₃) X.xe s := by
    rw [hs]
    exact wpAny_operating (wpAny_mono (d_getItem (Q := fun r s3 => EP X pins σ Q r s3) hu I dg ry fun w' s' I' rw' => ⟨z, H, I', rw', q⟩) (fun r s₃ h₃ => wpAny_bind (wpAny_letTemporaryGo (wpAny_pure h₃))) fun _ _ x => x)
  first
    | exact wpAny_pure (wpAny_bind fin)
    | exact wpAny_bind (wpAny_pure (wpAny_bind fin))
    | exact wpAny_bind fin
theorem ixN_lt {n : Nat} {i : Int} {j : Nat} (h : ixN n i = some j) : j < n := (ixN_seq h).2.1
theorem atI_rel {k : Nat} {l : List D} {vs : List V} (r : RDs g ρ F k l vs) {i : Int} {d : D} (e : atI l i = some d) : ∃ v, atI vs i = some v ∧ RD g ρ F k d v := by
  unfold atI at e ⊢
  rw [← r.length]
  cases h : ixN l.length i with
  | none => rw [h] at e; cases e
  | some j =>
    rw [h] at e
    exact r.get (i := j) e
theorem ix_ok (hK : X.K = g.K) (hu : X.A.units + 65 < cLine) : IxR X (rd2 g ixS) := by
  rintro value slice pins s σ H x y v u Q I rx ry ⟨d, e, m, ρ, F, E, M, hd, he, h⟩ hs
  unfold ixS at h
  split at h
  · cases hd with
    | str _ hz =>
      cases he
      split at h
      · rename_i c hc
        exact ix_str value slice pins s σ H _ _ v u Q I rx ry ⟨_, _, c, rfl, rfl, hz, hc, h.val M (RP.str _ (by simp [Str.length, PySem.sizeLine]))⟩ hs
      · exact h.elim
  · split at h
    · rename_i x ex
      obtain ⟨a, w, rfl, dg, hw⟩ := dget_ok M.sub ex hd (RP.up M.sub he)
      obtain ⟨z, hz, rz⟩ := hw
      subst hz
      exact ix_dict (by omega) value slice pins s σ H _ _ v u Q I rx ry ⟨a, z, rfl, dg, h.val M rz⟩ hs
    · exact h.elim
  · cases he
    split at h
    · rename_i l el
      obtain ⟨a, vs, _, rfl, r, q⟩ := seqD_ok M el hd
      split at h
      · rename_i d' ed
        obtain ⟨z, hz, rz⟩ := atI_rel r ed
        have qq := h.val M rz
        rcases q with ⟨k, _⟩ | ⟨k, _⟩
        · exact ix_list value slice pins s σ H _ _ v u Q I rx ry ⟨a, vs, _, z, rfl, rfl, SqL.of k, hz, qq⟩ hs
        · exact ix_tup value slice pins s σ H _ _ v u Q I rx ry ⟨a, vs, _, z, rfl, rfl, by rw [hK]; exact k, hz, qq⟩ hs
      · exact h.elim
    · exact h.elim
  · exact h.elim
end
end Dn

/-! Dn, part G: slices, built-in functions, methods, by values. -/
namespace Dn
open PySem PySem.Spec PyProof.Rows L2
section
variable {X : Cx} {g : Gn} {ρ : Rho} {F H : Hp} {m : Mem} {Q : VK} {E : XK}
def rdSl (g : Gn) : V → Option Int → Option Int → Hp → VK → Prop := fun x lo hi H Q => ∃ d m ρ F E, MRel g ρ F m H ∧ RD g ρ F m.length d x ∧ PostD g ρ F m H (slS d lo hi m) Q E
theorem cut_rp {l : List P} {vs : List V} (r : RPs g F l vs) (lo hi : Option Int) : RPs g F (cutD l lo hi) (cutV vs lo hi) := by
  unfold cutD cutV
  rw [← r.length]
  exact RPs.take _ (RPs.drop _ r)
theorem cut_rd {k : Nat} {l : List D} {vs : List V} (r : RDs g ρ F k l vs) (lo hi : Option Int) : RDs g ρ F k (cutD l lo hi) (cutV vs lo hi) := by
  unfold cutD cutV
  rw [← r.length]
  exact RDs.take _ (RDs.drop _ r)
theorem cut_ints (ns : List Int) (lo hi : Option Int) : cutV (ns.map V.int) lo hi = (cutD ns lo hi).map V.int := by
  unfold cutD cutV
  rw [List.length_map, List.map_take, List.map_drop]
theorem cutD_len {α : Type} (l : List α) (lo hi : Option Int) : (cutD l lo hi).length ≤ l.length := by
  unfold cutD
  rw [List.length_take, List.length_drop]
  omega
theorem cutS_len (z : Str) (lo hi : Option Int) : (cutS z lo hi).length ≤ z.length := by
  unfold cutS
  simp only [Str.length, List.size_toArray, List.length_take, List.length_drop]
  have : z.cps.toList.length = z.cps.size := Array.length_toList
  omega
theorem sl_ok (hK : X.K = g.K) : SlR X (rdSl g) := by
  rintro pins s σ H x v vl vu lo hi sl Q I rx hs pl pu ⟨d, m, ρ, F, E, M, hd, h⟩
  unfold slS at h
  split at h
  · cases hd with
    | str _ hz => exact sl_str pins s σ H _ v vl vu lo hi sl Q I rx hs pl pu ⟨_, rfl, hz, h.val M (RP.str _ (Nat.le_trans (cutS_len _ _ _) hz))⟩
  · cases hd with
    | lst hz h1 t => exact sl_list pins s σ H _ v vl vu lo hi sl Q I rx hs pl pu ⟨_, _, rfl, SqL.of (M.sub.lst h1), fun p hp => h.newLst (Nat.le_trans (cutD_len _ _ _) hz) M (cut_rp t lo hi) hp⟩
  · cases hd with
    | scr hz h1 =>
      refine sl_list pins s σ H _ v vl vu lo hi sl Q I rx hs pl pu ⟨_, _, rfl, by rw [hK]; exact M.sub.seq h1, fun p hp => ?_⟩
      rw [cut_ints]
      exact h.newLst (by rw [List.length_map]; exact Nat.le_trans (cutD_len _ _ _) hz) M (RPs.ofInts _) hp
  · cases hd with
    | tup hz h1 t =>
      refine sl_tupA pins s σ H _ v vl vu lo hi sl Q I rx hs pl pu ⟨_, _, rfl, SqT.of (M.sub.tup h1), fun c => ?_, fun c p hp => h.newTup (Nat.le_trans (cutD_len _ _ _) hz) M (cut_rp t lo hi) hp⟩
      rename_i l a vs
      have e : cutD l lo hi = l := by
        unfold cutD
        rw [t.length, c.1, c.2, ← t.length, List.drop_zero, Nat.sub_zero, List.take_length]
      rw [e] at h
      exact h.val M (RP.tup hz h1 t)
  · split at h
    · rename_i l e
      have hz := M.line (get_some e)
      obtain ⟨ho, rfl, h1, h2⟩ := M.look e hd
      obtain ⟨vs, rfl, h3⟩ := rmo_lst h2
      refine sl_list pins s σ H _ v vl vu lo hi sl Q I rx hs pl pu ⟨_, _, rfl, SqL.of h1, fun p hp => ?_⟩
      split at h
      · rename_i ps ep
        rw [allP_eq ep] at h3 hz
        rw [List.length_map] at hz
        exact h.newLst (Nat.le_trans (cutD_len _ _ _) hz) M (cut_rp (RPs.of h3) lo hi) hp
      · exact h.newL (Nat.le_trans (cutD_len _ _ _) hz) M (cut_rd h3 lo hi) hp
    · exact h.elim
  · exact h.elim
theorem onL_ok {α : Type} {f : List P → Option α} {k : α → P} {d : D} {v : V} (M : MRel g ρ F m H) (hd : RD g ρ F m.length d v) (h : PostD g ρ F m H (onL f k d m) Q E) :
    ∃ a vs l x, v = .ref a ∧ H a = some (.lst vs) ∧ RPs g H l vs ∧ f l = some x ∧ PostD g ρ F m H (.ok (.p (k x)) m) Q E := by
  unfold onL at h
  split at h
  · rename_i l e
    have r := rdP_ok M e hd
    cases r with
    | lst hz h1 t =>
      split at h
      · rename_i x ex
        exact ⟨_, _, l, x, rfl, h1, t, ex, h⟩
      · exact h.elim
  · exact h.elim
theorem len_ok (hK : X.K = g.K) : CallR X (.builtin "len") (rdN g (bclS .len)) := by
  rintro pins s σ H xs us Q I r ⟨ds, m, ρ, F, E, M, rs, h⟩
  match ds, xs, rs with
  | [], _, _ => exact h.elim
  | [d], [x], rs =>
    have hd := rs.1
    have h : PostD g ρ F m H (lenS d m) Q E := h
    unfold lenS at h
    split at h
    · cases hd with
      | str _ hz => exact call_len_str pins s σ H _ us Q I r ⟨_, rfl, hz, h.val M (RP.int _)⟩
    · cases hd with
      | dK hz h1 t =>
        obtain ⟨u, rfl, ru⟩ := vals1 r
        cases ru
        have hl : ∀ {l : List (P × P)} {kvs : List (Key × V)}, RPk g F l kvs → l.length = kvs.length := by
          intro l kvs z
          induction l generalizing kvs with
          | nil => cases z; rfl
          | cons a l ih => cases z with | cons _ _ _ z => exact congrArg Nat.succ (ih z)
        rw [hl t] at h
        exact d_len I (M.sub.rd (.inl ⟨_, rfl⟩) h1) fun t s' I' => ⟨.int _, H, I', ⟨t, rfl⟩, h.val M (RP.int _)⟩
    · split at h
      · rename_i l e
        obtain ⟨a, vs, _, rfl, r1, q⟩ := seqD_ok M e hd
        have qq := h.val M (RP.int _)
        rw [r1.length] at qq
        rcases q with ⟨k, _⟩ | ⟨k, _⟩
        · exact call_len_seq pins s σ H _ us Q I r ⟨a, vs, rfl, .inl (SqL.of k), qq⟩
        · exact call_len_seq pins s σ H _ us Q I r ⟨a, vs, rfl, .inr (by rw [hK]; exact k), qq⟩
      · exact h.elim
  | _ :: _ :: _, _, _ => exact h.elim
theorem int_ok : CallR X (.type "int") (rdN g (bclS .int)) := by
  rintro pins s σ H xs us Q I r ⟨ds, m, ρ, F, E, M, rs, h⟩
  match ds, xs, rs with
  | [], _, _ => exact h.elim
  | [d], [x], rs =>
    have hd := rs.1
    have h : PostD g ρ F m H (intS d m) Q E := h
    unfold intS at h
    split at h
    · cases hd
      exact call_int1 pins s σ H _ us Q I r (.inl ⟨_, rfl, h.val M (RP.int _)⟩)
    · cases hd
      exact call_int1 pins s σ H _ us Q I r (.inr ⟨_, rfl, h.val M (RP.int _)⟩)
    · cases hd
      split at h
      · rename_i n e
        split at h
        · rename_i hz
          exact call_int_str pins s σ H _ us Q I r ⟨_, n, rfl, e, hz, h.val M (RP.int _)⟩
        · exact h.elim
      · exact h.elim
    · exact h.elim
  | _ :: _ :: _, _, _ => exact h.elim
theorem abs_ok : CallR X (.builtin "abs") (rdN g (bclS .abs)) := by
  rintro pins s σ H xs us Q I r ⟨ds, m, ρ, F, E, M, rs, h⟩
  match ds, xs, rs with
  | [], _, _ => exact h.elim
  | [d], [x], rs =>
    have hd := rs.1
    have h : PostD g ρ F m H (absS d m) Q E := h
    unfold absS at h
    split at h
    · cases hd
      exact call_abs pins s σ H _ us Q I r ⟨_, rfl, h.val M (RP.int _)⟩
    · exact h.elim
  | _ :: _ :: _, _, _ => exact h.elim
theorem keys_rp : ∀ {l : List (P × P)} {kvs : List (Key × V)}, RPk g F l kvs → RPs g F (l.map (·.1)) (kvs.map fun kv => kV kv.1)
  | _, _, .nil => .nil
  | _, _, .cons e z r t => by
    refine .cons ?_ (keys_rp t)
    rename_i k x κ v l vs
    cases k with
    | int i => cases e; exact .int _
    | str y => cases e; exact .str _ z
    | _ => cases e
theorem list_ok (hK : X.K = g.K) (hc : X.calm = true) (mu : Bool) : CallR X (.type "list") (rdN g (fun l m => match l with | [a] => listS mu a m | _ => .no)) := by
  rintro pins s σ H xs us Q I r ⟨ds, m, ρ, F, E, M, rs, h⟩
  match ds, xs, rs with
  | [], _, _ => exact h.elim
  | [d], [x], rs =>
    have hd := rs.1
    have h : PostD g ρ F m H (listS mu d m) Q E := h
    unfold listS at h
    split at h
    · cases hd with
      | dK hz h1 t =>
        rename_i lp _ a kvs
        have e : (lp.map fun kv => D.p kv.1) = (lp.map (·.1)).map D.p := by rw [List.map_map]; rfl
        rw [e] at h
        obtain ⟨_, z⟩ := mkL_post (by rw [List.length_map, List.length_map]; exact hz) h M (RPs.ds (keys_rp t))
        exact call_listD hc pins s σ H _ us Q I r ⟨a, kvs, rfl, M.sub.rd (.inl ⟨_, rfl⟩) h1, z⟩
    · split at h
      · rename_i l e
        obtain ⟨a, vs, hz, rfl, r1, q⟩ := seqD_ok M e hd
        obtain ⟨_, z⟩ := mkL_post hz h M r1
        rcases q with ⟨k, _⟩ | ⟨k, _⟩
        · exact call_list_of pins s σ H _ us Q I r ⟨a, vs, rfl, .inl (SqL.of k), z⟩
        · exact call_list_of pins s σ H _ us Q I r ⟨a, vs, rfl, .inr (by rw [hK]; exact k), z⟩
      · exact h.elim
  | _ :: _ :: _, _, _ => exact h.elim
theorem tuple_ok (hK : X.K = g.K) : CallR X (.type "tuple") (rdN g (bclS .tuple)) := by
  rintro pins s σ H xs us Q I r ⟨ds, m, ρ, F, E, M, rs, h⟩
  match ds, xs, rs with
  | [], _, _ => exact h.elim
  | [d], [x], rs =>
    have hd := rs.1
    have h : PostD g ρ F m H (tupleS d m) Q E := h
    unfold tupleS at h
    split at h
    · rename_i it
      cases d with
      | p y => cases y with
        | tup l =>
          have qq := h.val M hd
          cases hd with
          | tup _ h1 t => exact call_tuple_of pins s σ H _ us Q I r ⟨_, _, rfl, .inr ⟨SqT.of (M.sub.tup h1), qq⟩⟩
        | ktp l =>
          have qq := h.val M hd
          cases hd with
          | ktp _ h1 t => exact call_tuple_of pins s σ H _ us Q I r ⟨_, _, rfl, .inr ⟨by rw [hK]; exact h1 H, qq⟩⟩
        | _ => cases it
      | ref n => cases it
    · rename_i it
      split at h
      · rename_i l e
        obtain ⟨a, vs, hz, rfl, r1, q⟩ := seqD_ok M e hd
        obtain ⟨_, z⟩ := mkT_post hz h M r1
        rcases q with ⟨k, _⟩ | ⟨_, ps, k⟩
        · exact call_tuple_of pins s σ H _ us Q I r ⟨a, vs, rfl, .inl ⟨SqL.of k, z⟩⟩
        · rcases k with k | k <;> (subst k; exact absurd rfl it)
      · exact h.elim
  | _ :: _ :: _, _, _ => exact h.elim
theorem all_ok (hc : X.calm = true) : CallR X (.builtin "all") (rdN g (bclS .all)) := by
  rintro pins s σ H xs us Q I r ⟨ds, m, ρ, F, E, M, rs, h⟩
  match ds, xs, rs with
  | [], _, _ => exact h.elim
  | [d], [x], rs =>
    obtain ⟨a, vs, l, bs, rfl, h1, t, ef, h⟩ := onL_ok M rs.1 (show PostD g ρ F m H (onL blsP (fun bs => .bl (bs.all id)) d m) Q E from h)
    rw [blsP_eq ef] at t
    rw [t.bls] at h1
    exact cr_all hc pins s σ H _ us Q I r ⟨a, bs, rfl, SqL.of h1, h.val M (RP.bl _)⟩
  | _ :: _ :: _, _, _ => exact h.elim
theorem any_ok (hc : X.calm = true) : CallR X (.builtin "any") (rdN g (bclS .any)) := by
  rintro pins s σ H xs us Q I r ⟨ds, m, ρ, F, E, M, rs, h⟩
  match ds, xs, rs with
  | [], _, _ => exact h.elim
  | [d], [x], rs =>
    obtain ⟨a, vs, l, bs, rfl, h1, t, ef, h⟩ := onL_ok M rs.1 (show PostD g ρ F m H (onL blsP (fun bs => .bl (bs.any id)) d m) Q E from h)
    rw [blsP_eq ef] at t
    rw [t.bls] at h1
    exact cr_any hc pins s σ H _ us Q I r ⟨a, bs, rfl, SqL.of h1, h.val M (RP.bl _)⟩
  | _ :: _ :: _, _, _ => exact h.elim
theorem sum_ok (hc : X.calm = true) : CallR X (.builtin "sum") (rdN g (bclS .sum)) := by
  rintro pins s σ H xs us Q I r ⟨ds, m, ρ, F, E, M, rs, h⟩
  match ds, xs, rs with
  | [], _, _ => exact h.elim
  | [d], [x], rs =>
    obtain ⟨a, vs, l, bs, rfl, h1, t, ef, h⟩ := onL_ok M rs.1 (show PostD g ρ F m H (onL intsP (fun ns => .int ns.sum) d m) Q E from h)
    rw [intsP_eq ef] at t
    rw [t.ints] at h1
    exact cr_sum hc pins s σ H _ us Q I r ⟨a, bs, rfl, SqL.of h1, h.val M (RP.int _)⟩
  | _ :: _ :: _, _, _ => exact h.elim
theorem str_ok : CallR X (.type "str") (rdN g (bclS .str)) := by
  rintro pins s σ H xs us Q I r ⟨ds, m, ρ, F, E, M, rs, h⟩
  match ds, xs, rs with
  | [], _, _ => exact h.elim
  | [d], [x], rs =>
    have hd := rs.1
    have h : PostD g ρ F m H (strS d m) Q E := h
    unfold strS at h
    split at h
    · cases hd
      split at h
      · rename_i hz
        exact call_str_int pins s σ H _ us Q I r ⟨_, rfl, hz, h.val M (RP.str _ (int_text_fits hz))⟩
      · exact h.elim
    · exact h.elim
  | _ :: _ :: _, _, _ => exact h.elim
/-- a built-in function's name; is it a class -/
def bfN : BF → String
  | .len => "len" | .int => "int" | .abs => "abs" | .list => "list" | .listM => "list" | .tuple => "tuple" | .all => "all" | .any => "any" | .sum => "sum" | .str => "str" | .repr => "repr"
def bfT : BF → Bool
  | .int => true | .list => true | .listM => true | .tuple => true | .str => true | _ => false
def bfV (f : BF) : Value := if bfT f then .type (bfN f) else .builtin (bfN f)
theorem rdN_imp {v : Value} {sem sem' : List D → Mem → R D} (h : CallR X v (rdN g sem)) (k : ∀ l m, sem' l m = sem l m) : CallR X v (rdN g sem') := by
  have : sem' = sem := by funext l m; exact k l m
  rw [this]; exact h
theorem bcl_ok (hK : X.K = g.K) (hc : X.calm = true) (f : BF) : CallR X (bfV f) (rdN g (bclS f)) := by
  cases f with
  | len => exact len_ok hK
  | int => exact int_ok
  | abs => exact abs_ok
  | list => exact rdN_imp (list_ok hK hc false) fun l m => by unfold bclS; rfl
  | listM => exact rdN_imp (list_ok hK hc true) fun l m => by unfold bclS; rfl
  | tuple => exact tuple_ok hK
  | all => exact all_ok hc
  | any => exact any_ok hc
  | sum => exact sum_ok hc
  | str => exact str_ok
  | repr =>
    rintro pins s σ H xs us Q I r ⟨ds, m, ρ, F, E, M, rs, h⟩
    unfold bclS at h
    split at h <;> exact h.elim

/-! ### methods -/
theorem seqP_ok (M : MRel g ρ F m H) {d : D} {l : List P} {v : V} (e : seqP m d = some l) (r : RD g ρ F m.length d v) : ∃ a vs, v = .ref a ∧ RPs g F l vs ∧ (H a = some (.lst vs) ∨ SqT g.K H a vs) := by
  unfold seqP at e
  split at e
  · rename_i ds es
    obtain ⟨a, vs, _, rfl, r1, q⟩ := seqD_ok M es r
    rw [allP_eq e] at r1
    exact ⟨a, vs, rfl, RPs.of r1, q.imp (·.1) (·.1)⟩
  · cases e
theorem joinL_len (S : List Nat) : ∀ ps : List (List Nat), (TL.joinL S ps).length = (ps.map List.length).sum + (ps.length - 1) * S.length
  | [] => by simp [TL.joinL]
  | [p] => by simp [TL.joinL]
  | p :: q :: r => by
    have ih := joinL_len S (q :: r)
    show (p ++ (S ++ TL.joinL S (q :: r))).length = _
    rw [List.length_append, List.length_append, ih]
    simp only [List.map_cons, List.sum_cons, List.length_cons, Nat.add_sub_cancel]
    rw [Nat.add_mul]
    omega
theorem str_len (s : Str) : s.length = (TL.tl s).length := (Array.length_toList).symm
theorem tl_lens (ss : List Str) : (ss.map TL.tl).map List.length = ss.map Str.length := by
  rw [List.map_map]
  exact List.map_congr_left fun s _ => (str_len s).symm
theorem join_len (s : Str) (ss : List Str) : (Str.join s ss).length = (ss.map Str.length).sum + (ss.length - 1) * s.length := by
  rw [str_len, TL.tl_join, joinL_len, tl_lens, List.length_map, ← str_len]
theorem join_le {s : Str} {ss : List Str} (h : (ss.map Str.length).sum + ss.length * s.length ≤ 16777216) : (Txt.join s ss).length ≤ sizeLine := by
  rw [TL.join_eq, join_len, PySem.sizeLine_eq]
  exact Nat.le_trans (Nat.add_le_add_left (Nat.mul_le_mul_right _ (Nat.sub_le _ _)) _) h
theorem mem_le_sum : ∀ {l : List Nat} {n : Nat}, n ∈ l → n ≤ l.sum
  | m :: l, n, h => by
    rw [List.sum_cons]
    rcases List.mem_cons.mp h with rfl | h
    · omega
    · have := mem_le_sum h
      omega
theorem split_len {x y : Str} (hy : (y.length == 0) = false) : (∀ p ∈ Txt.split x y, p.length ≤ x.length) ∧ (Txt.split x y).length ≤ x.length + 1 := by
  have e := join_len y (Txt.split x y)
  rw [PySem.StrLaws.join_split] at e
  have hy' : 1 ≤ y.length := by
    have : y.length ≠ 0 := by simpa using hy
    omega
  refine ⟨fun p hp => ?_, ?_⟩
  · have := mem_le_sum (List.mem_map.mpr ⟨p, hp, rfl⟩ : p.length ∈ (Txt.split x y).map Str.length)
    omega
  · have : (Txt.split x y).length - 1 ≤ ((Txt.split x y).length - 1) * y.length := Nat.le_mul_of_pos_right _ hy'
    omega
theorem RPs.ofStrs : ∀ {ss : List Str}, (∀ s ∈ ss, s.length ≤ sizeLine) → RPs g F (ss.map P.str) (ss.map V.str)
  | [], _ => .nil
  | s :: ss, h => .cons (.str s (h s List.mem_cons_self)) (RPs.ofStrs fun z hz => h z (List.mem_cons_of_mem _ hz))
theorem split_ok : MtR X "str.split" (rdM g (bmtS .split)) := by
  rintro pins s σ H x xs v us Q I rx rs ⟨d, ds, m, ρ, F, E, M, hd, hs, h⟩
  have h : PostD g ρ F m H (splitS d ds m) Q E := h
  unfold splitS at h
  split at h
  · rename_i z t
    cases hd
    match xs, hs with
    | [y], hs =>
      cases hs.1
      split at h
      · rename_i hz
        refine mt_split pins s σ H _ _ v us Q I rx rs ⟨_, _, rfl, rfl, hz.1, hz.2, fun p hp => ?_⟩
        exact h.newLst (Nat.le_trans (Nat.le_of_eq (List.length_map ..)) (Nat.le_trans (split_len hz.1).2 (Nat.le_trans (Nat.le_succ _) hz.2))) M (RPs.ofStrs fun s hs => Nat.le_trans ((split_len hz.1).1 s hs) (Nat.le_trans (Nat.le_add_right _ 2) hz.2)) hp
      · exact h.elim
  · exact h.elim
theorem reverse_ok : MtR X "list.reverse" (rdM g (bmtS .reverse)) := by
  rintro pins s σ H x xs v us Q I rx rs ⟨d, ds, m, ρ, F, E, M, hd, hs, h⟩
  have h : PostD g ρ F m H (reverseS d ds m) Q E := h
  unfold reverseS at h
  split at h
  · match xs, hs with
    | [], _ =>
      split at h
      · rename_i l e
        have hz := M.line (get_some e)
        obtain ⟨ho, rfl, h1, h2⟩ := M.look e hd
        obtain ⟨vs, rfl, h3⟩ := rmo_lst h2
        obtain ⟨x1, M1⟩ := step_put (o' := .lst l.reverse) (ho := .lst vs.reverse) M (get_some e) ⟨by rw [List.length_reverse]; exact hz, h3.rev⟩
        exact mt_reverse pins s σ H _ _ v us Q I rx rs ⟨_, _, rfl, rfl, h1, h _ _ _ _ x1 M1 RP.non⟩
      · exact h.elim
  · exact h.elim
theorem clear_ok : MtR X "list.clear" (rdM g (bmtS .clear)) := by
  rintro pins s σ H x xs v us Q I rx rs ⟨d, ds, m, ρ, F, E, M, hd, hs, h⟩
  have h : PostD g ρ F m H (clearS d ds m) Q E := h
  unfold clearS at h
  split at h
  · match xs, hs with
    | [], _ =>
      split at h
      · rename_i l e
        obtain ⟨ho, rfl, h1, h2⟩ := M.look e hd
        obtain ⟨vs, rfl, h3⟩ := rmo_lst h2
        obtain ⟨x1, M1⟩ := step_put (o' := .lst []) (ho := .lst []) M (get_some e) ⟨Nat.zero_le _, trivial⟩
        exact mt_clear pins s σ H _ _ v us Q I rx rs ⟨_, _, rfl, rfl, h1, h _ _ _ _ x1 M1 RP.non⟩
      · exact h.elim
  · exact h.elim
theorem join_ok (hK : X.K = g.K) : MtR X "str.join" (rdM g (bmtS .join)) := by
  rintro pins s σ H x xs v us Q I rx rs ⟨d, ds, m, ρ, F, E, M, hd, hs, h⟩
  have h : PostD g ρ F m H (joinS d ds m) Q E := h
  unfold joinS at h
  split at h
  · rename_i z b
    cases hd
    match xs, hs with
    | [y], hs =>
      split at h
      · rename_i ss es
        split at h
        · rename_i hz
          obtain ⟨l, e1, e2⟩ := Option.bind_eq_some_iff.mp es
          obtain ⟨a, vs, rfl, r1, q⟩ := seqP_ok M e1 hs.1
          rw [strsP_eq e2] at r1
          rw [r1.strs] at q
          exact mt_join pins s σ H _ _ v us Q I rx rs ⟨_, a, ss, rfl, rfl, by rw [hK]; exact q.imp SqL.of (fun z => z), hz, h.val M (RP.str _ (join_le hz))⟩
        · exact h.elim
      · exact h.elim
  · exact h.elim
theorem append_ok : MtR X "list.append" (rdM g (bmtS .append)) := by
  rintro pins s σ H x xs v us Q I rx rs ⟨d, ds, m, ρ, F, E, M, hd, hs, h⟩
  have h : PostD g ρ F m H (appendS d ds m) Q E := h
  cases d with
  | p y => exact h.elim
  | ref n =>
    match ds, xs, hs with
    | [], _, _ => exact h.elim
    | _ :: _ :: _, _, _ => exact h.elim
    | [y], [y'], hs =>
      unfold appendS at h
      simp only at h
      split at h
      · rename_i l e
        split at h
        · rename_i hz
          obtain ⟨ho, rfl, h1, h2⟩ := M.look e hd
          obtain ⟨vs, rfl, h3⟩ := rmo_lst h2
          obtain ⟨x1, M1⟩ := step_put (o' := .lst (l ++ [y])) (ho := .lst (vs ++ [y'])) M (get_some e) ⟨by rw [List.length_append, List.length_singleton]; exact hz, h3.append ⟨hs.1, trivial⟩⟩
          exact mt_append pins s σ H _ _ v us Q I rx rs ⟨_, _, _, rfl, rfl, h1, by rw [← h3.length]; exact hz, h _ _ _ _ x1 M1 RP.non⟩
        · exact h.elim
      · exact h.elim
def rdI (g : Gn) : V → V → V → Hp → (Hp → Prop) → Prop := fun o i v H Q => ∃ d e y m ρ F E, MRel g ρ F m H ∧ RD g ρ F m.length d o ∧ RD g ρ F m.length e i ∧ RD g ρ F m.length y v ∧ Post g (fun _ _ _ (_ : Unit) (_ : Unit) => True) ρ F m H (isetS d e y m) (fun _ => Q) E
theorem iset_ok : PSet X (rdI g) := by
  rintro pins s σ H o i v ov iv u Q I ro ri rv ⟨d, e, y, m, ρ, F, E, M, hd, he, hy, h⟩
  unfold isetS at h
  split at h
  · rename_i n k
    cases he
    split at h
    · rename_i l el
      split at h
      · rename_i j ej
        obtain ⟨ho, rfl, h1, h2⟩ := M.look el hd
        obtain ⟨vs, rfl, h3⟩ := rmo_lst h2
        obtain ⟨x1, M1⟩ := step_put (o' := .lst (l.set j y)) (ho := .lst (vs.set j v)) M (get_some el) ⟨by rw [List.length_set]; exact M.line (get_some el), h3.set hy j⟩
        exact set_list pins s σ H _ _ v ov iv u Q I ro ri rv ⟨_, _, _, j, rfl, rfl, h1, by rw [← h3.length]; exact ej, h () _ _ _ x1 M1 trivial⟩
      · exact h.elim
    · exact h.elim
  · exact h.elim
end
end Dn

/-! Dn, part GA: an own ==, and != by it. -/
namespace Dn
open PySem PySem.Spec PyProof.Rows L2
section
variable {prog : Program} {w : World} {A : Around} {E : Value → Shared → Prop} {s : Shared} {K : PySem.W.Frag} {x C f : Addr} {ox : Obj} {od : Option Obj} {b tb : Value}
theorem sub_bt {t : String} (h : t ∈ bts) : PySem.W.subIn K (.type t) (.ref C) = some false := by
  have k : ∀ t ∈ bts, ∃ l : List String, fastBuiltinMro t = some (l.map Value.type) := by
    intro t ht
    simp only [bts, List.mem_cons, List.not_mem_nil, or_false] at ht
    rcases ht with rfl | rfl | rfl | rfl | rfl | rfl | rfl
    · exact ⟨["NoneType", "object"], by decide +kernel⟩
    · exact ⟨["bool", "int", "object"], by decide +kernel⟩
    · exact ⟨["int", "object"], by decide +kernel⟩
    · exact ⟨["str", "object"], by decide +kernel⟩
    · exact ⟨["list", "object"], by decide +kernel⟩
    · exact ⟨["tuple", "object"], by decide +kernel⟩
    · exact ⟨["dict", "object"], by decide +kernel⟩
  obtain ⟨l, e⟩ := k t h
  show (fastBuiltinMro t).map (·.contains (.ref C)) = some false
  rw [e, Option.map_some]
  congr 1
  clear e
  induction l with
  | nil => rfl
  | cons a l ih => rw [List.map_cons, List.contains_cons, ih]; rfl
theorem notFirst_bt {t : String} (h : t ∈ bts) : PySem.W.notFirst K C (.type t) = true := by
  unfold PySem.W.notFirst
  rw [sub_bt h]
  simp
theorem entry_ne {Q : Fin → Shared → Prop} (hu : A.units < cLine) (X : K.In s.heap) (I : PySem.W.InstAt s.heap x ox C od) (hs : PySem.W.findIn K (.ref C) "__eq__" = some (some (.ref f))) (hf : PySem.W.isFn K (.ref f) = true)
    (h : wpAny (model prog w) A (call (.ref f) [.ref x, b]) (fun v s' => ∃ k, v = .bool k ∧ Q (.done (.ret (.bool (!k)))) s') E s) : wpAny (model prog w) A (Builtin.«object.__ne__» ⟨[.ref x, b], []⟩) Q E s := by
  unfold Builtin.«object.__ne__»
  repeat (first
    | with_reducible refine wpAny_cRoomFor hu ?_
    | (refine wpAny_bind (m := callSpecialIfBound? (.ref x) (Str.ofString "__eq__") [b])
        (PySem.W.ifBound_K X I hs hf (wpAny_mono h (fun r s' hr => by
          obtain ⟨k, rfl, hq⟩ := hr
          repeat (first | exact hq | exact wpAny_pure hq | exact wpAny_truthy_bool hq | (refine wpAny_bind (m := truthy (.bool _)) (wpAny_truthy_bool ?_)) | wp_step)) fun _ _ e => e)))
    | wp_step)
theorem ifBound_objNe {M : Model} {args : List Value} {Q : Option Value → Shared → Prop} (X : K.In s.heap) (I : PySem.W.InstAt s.heap x ox C od) (hs : PySem.W.findIn K (.ref C) "__ne__" = some (some (.builtin "object.__ne__")))
    (h : wpAny M A (call (.builtin "object.__ne__") (.ref x :: args)) (fun v => Q (some v)) E s) : wpAny M A (callSpecialIfBound? (.ref x) "__ne__" args) Q E s := by
  simp only [callSpecialIfBound?, bindSpecialIfBound?]
  refine wpAny_holding (wpAny_bind (wpAny_bind (wpAny_bind (I.type.here ((PySem.W.looks_findIn X hs).here ?_)))))
  refine wpAny_bind (wpAny_askSetting (wpAny_ite ?_))
  have fin : wpAny M A (call (.builtin "object.__ne__") ([.ref x] ++ args) >>= fun v => pure (some v)) Q E s := wpAny_bind (wpAny_mono h (fun v s' h' => wpAny_pure h') fun _ _ h' => h')
  split
  · exact wpAny_bind (wpAny_of_eq (F.cmp_object.ne.bind _) (wpAny_pure (by exact fin)))
  · exact wpAny_tryCatch (wpAny_bind (wpAny_of_eq (F.cmp_object.ne.bind _) (wpAny_pure (by exact fin))))
theorem ne_K {Q : Value → Shared → Prop} (hu : A.units + 1 < cLine) (X : K.In s.heap) (I : PySem.W.InstAt s.heap x ox C od) (hb : PySem.W.Looks (model prog w) s.heap (typeOf b) tb) (hn : PySem.W.notFirst K C tb = true)
    (hm : PySem.W.mroIn K C (.type "object") = some true)
    (hne : PySem.W.findIn K (.ref C) "__ne__" = some (some (.builtin "object.__ne__"))) (hs : PySem.W.findIn K (.ref C) "__eq__" = some (some (.ref f))) (hf : PySem.W.isFn K (.ref f) = true)
    (h : wpAny (model prog w) A.in1 (call (.ref f) [.ref x, b]) (fun v s' => ∃ k, v = .bool k ∧ Q (.bool (!k)) s') E s) : wpAny (model prog w) A (richCompare .NotEq (.ref x) b) Q E s := by
  have one : wpAny (model prog w) A (tryCompare (.ref x) "__ne__" b) (fun r s' => ∃ v, r = some v ∧ Q v s') E s := by
    unfold tryCompare
    refine wpAny_bind (ifBound_objNe X I hne (wpAny_call (codeAny_call_builtin F.cmp_object.ne.plain F.cmpEntry_ne (PySem.W.check_slot F.cmpKind_ne F.cmpSplit_ne (I.type.andThen (PySem.W.looks_mroIn X hm)) (F.cmpArgs_ne _ _) (entry_ne (A := A.in1) hu X I hs hf (wpAny_mono h (fun v s' hv => ?_) fun _ _ e => e))))))
    obtain ⟨k, rfl, hq⟩ := hv
    first | exact ⟨k, rfl, wpAny_pure ⟨_, rfl, hq⟩⟩ | exact ⟨k, rfl, wpAny_pure (wpAny_pure ⟨_, rfl, hq⟩)⟩ | exact ⟨k, rfl, ⟨_, rfl, hq⟩⟩
  unfold richCompare
  simp only [oneThing_ref]
  refine wpAny_holding (wpAny_bind (wpAny_cRoomFor (Nat.lt_of_succ_lt hu) ?_))
  rw [cmpInfo_NotEq]
  dsimp only
  refine wpAny_bind (I.type.here (wpAny_bind (hb.here ?_)))
  split
  · rename_i q
    have e : PySem.W.subIn K tb (.ref C) = some false := by
      rcases Bool.or_eq_true_iff.mp hn with e | e
      · rw [beq_iff_eq.mp e] at q; simp at q
      · exact beq_iff_eq.mp e
    refine wpAny_bind ((PySem.W.looks_subIn X e).here ?_)
    simp only [Bool.false_eq_true, if_false]
    refine wpAny_bind (wpAny_mono one (fun r s' z => ?_) fun _ _ e => e)
    obtain ⟨v, rfl, hq⟩ := z
    exact wpAny_pure hq
  · refine wpAny_bind (wpAny_pure ?_)
    simp only [Bool.false_eq_true, if_false]
    refine wpAny_bind (wpAny_mono one (fun r s' z => ?_) fun _ _ e => e)
    obtain ⟨v, rfl, hq⟩ := z
    exact wpAny_pure hq
end
end Dn

/-! Dn, part H: the judgement, the check of expressions, the plain cases. -/
namespace Dn
open PySem PySem.Spec PyProof.Rows L2

/-! ### results in a row -/
theorem Post.bind {α β γ δ : Type} {g : Gn} {rel : Rho → Hp → Nat → α → γ → Prop} {rel2 : Rho → Hp → Nat → β → δ → Prop} {ρ : Rho} {F : Hp} {m : Mem} {H : Hp} {r : R α} {f : α → Mem → R β} {Q : δ → Hp → Prop} {Q1 : γ → Hp → Prop} {E : XK}
    (h : Post g rel2 ρ F m H (r.bind f) Q E)
    (k : ∀ d m' v H' ρ' F', Ext ρ F m H ρ' F' m' H' → MRel g ρ' F' m' H' → rel ρ' F' m'.length d v → Post g rel2 ρ' F' m' H' (f d m') Q E → Q1 v H') : Post g rel ρ F m H r Q1 E := by
  cases r with
  | ok d m' => exact fun v H' ρ' F' x M r => k d m' v H' ρ' F' x M r (Post.on x h)
  | ex x m' => exact h
  | no => exact h.elim
theorem Post.bindE {α β γ δ : Type} {g : Gn} {rel : Rho → Hp → Nat → α → γ → Prop} {rel2 : Rho → Hp → Nat → β → δ → Prop} {ρ : Rho} {F : Hp} {m : Mem} {H : Hp} {r : R α} {f : α → Mem → R β} {Q : δ → Hp → Prop} {Q1 : γ → Hp → Prop} {E : XK}
    (h : Post g rel2 ρ F m H (r.bind f) Q E)
    (k : ∀ d m', r = .ok d m' → ∀ v H' ρ' F', Ext ρ F m H ρ' F' m' H' → MRel g ρ' F' m' H' → rel ρ' F' m'.length d v → Post g rel2 ρ' F' m' H' (f d m') Q E → Q1 v H') : Post g rel ρ F m H r Q1 E := by
  cases r with
  | ok d m' => exact fun v H' ρ' F' x M r => k d m' rfl v H' ρ' F' x M r (Post.on x h)
  | ex x m' => exact h
  | no => exact h.elim
theorem Post.map {α γ δ : Type} {g : Gn} {rel : Rho → Hp → Nat → α → γ → Prop} {rel2 : Rho → Hp → Nat → α → δ → Prop} {ρ : Rho} {F : Hp} {m : Mem} {H : Hp} {r : R α} {Q : δ → Hp → Prop} {Q1 : γ → Hp → Prop} {E : XK}
    (h : Post g rel2 ρ F m H r Q E)
    (k : ∀ d m' v H' ρ' F', Ext ρ F m H ρ' F' m' H' → MRel g ρ' F' m' H' → rel ρ' F' m'.length d v → Post g rel2 ρ' F' m' H' (.ok d m') Q E → Q1 v H') : Post g rel ρ F m H r Q1 E := by
  cases r with
  | ok d m' => exact fun v H' ρ' F' x M r => k d m' v H' ρ' F' x M r (Post.on x h)
  | ex x m' => exact h
  | no => exact h.elim
theorem Post.imp {α γ : Type} {g : Gn} {rel : Rho → Hp → Nat → α → γ → Prop} {ρ : Rho} {F : Hp} {m : Mem} {H : Hp} {r : R α} {Q Q1 : γ → Hp → Prop} {E : XK} (h : Post g rel ρ F m H r Q E) (k : ∀ v H', Q v H' → Q1 v H') : Post g rel ρ F m H r Q1 E := by
  cases r with
  | ok d m' => exact fun v H' ρ' F' x M r => k _ _ (h v H' ρ' F' x M r)
  | ex x m' => exact h
  | no => exact h.elim
theorem _root_.L2.PE.imp {X : Cx} {e : Expr} {t t' : TE} (h : PE X e t) (k : ∀ σ H Q, t' σ H Q → t σ H Q) : PE X e t' := ⟨fun pins s σ H Q I q => h.run pins s σ H Q I (k σ H Q q)⟩
theorem _root_.L2.PT.imp {X : Cx} {e : Expr} {t t' : TT} (h : PT X e t) (k : ∀ σ H Q, t' σ H Q → t σ H Q) : PT X e t' := ⟨fun pins s σ H Q I q => h.run pins s σ H Q I (k σ H Q q)⟩
theorem _root_.L2.PA.imp {X : Cx} {e : List Expr} {t t' : TA} (h : PA X e t) (k : ∀ σ H Q, t' σ H Q → t σ H Q) : PA X e t' := ⟨fun pos pins s σ H Q I q => h.run pos pins s σ H Q I (k σ H Q q)⟩
theorem _root_.L2.PO.imp {X : Cx} {e : Option Expr} {t t' : L2.TO} (h : L2.PO X e t) (k : ∀ σ H Q, t' σ H Q → t σ H Q) : L2.PO X e t' := ⟨fun pins s σ H Q I q => h.run pins s σ H Q I (k σ H Q q)⟩
theorem _root_.L2.PI.imp {X : Cx} {tg iter : Expr} {t t' : TI} (h : PI X tg iter t) (k : ∀ σ H Q, t' σ H Q → t σ H Q) : PI X tg iter t' := ⟨fun pins s σ H Q I q => h.run pins s σ H Q I (k σ H Q q)⟩
theorem _root_.L2.PG.imp {X : Cx} {tg : Expr} {t t' : TG} (h : PG X tg t) (k : ∀ v σ H Q, t' v σ H Q → t v σ H Q) : PG X tg t' := ⟨fun pins s σ H v u Q I r q => h.run pins s σ H v u Q I r (k v σ H Q q)⟩
theorem _root_.L2.PGs.imp {X : Cx} {tg : List Expr} {t t' : TGs} (h : PGs X tg t) (k : ∀ v σ H Q, t' v σ H Q → t v σ H Q) : PGs X tg t' := ⟨fun pins s σ H v u Q I r q => h.run pins s σ H v u Q I r (k v σ H Q q)⟩
theorem _root_.L2.PS.imp {X : Cx} {e : Stmt} {t t' : TS} (h : PS X e t) (k : ∀ D σ H, t' D σ H → t D σ H) : PS X e t' := ⟨fun pins s σ H D I q => h.run pins s σ H D I (k D σ H q)⟩
theorem _root_.L2.PSs.imp {X : Cx} {e : List Stmt} {t t' : TS} (h : PSs X e t) (k : ∀ D σ H, t' D σ H → t D σ H) : PSs X e t' := ⟨fun pins s σ H D I q => h.run pins s σ H D I (k D σ H q)⟩

/-! ### readings -/
abbrev RB' : Rho → Hp → Nat → Bool → Bool → Prop := fun _ _ _ a b => b = a
abbrev RO' : Rho → Hp → Nat → Option Int → Option Int → Prop := fun _ _ _ a b => b = a
/-- a reading of slots and store, with what is wanted of an exception -/
def rdX {α β : Type} (g : Gn) (rel : Rho → Hp → Nat → α → β → Prop) (W : WX) (r : Sl → Mem → R α) : L2.St → Hp → (β → Hp → Prop) → Prop :=
  fun σ H Q => ∃ δ m ρ F, MRel g ρ F m H ∧ RSl g ρ F m.length δ σ ∧ Post g rel ρ F m H (r δ m) Q (WE W σ)
abbrev rdE (g : Gn) (W : WX) (r : Sl → Mem → R D) : TE := rdX g (RD g) W r
abbrev rdT (g : Gn) (W : WX) (r : Sl → Mem → R Bool) : TT := rdX g RB' W r
abbrev rdA (g : Gn) (W : WX) (r : Sl → Mem → R (List D)) : TA := rdX g (RDs g) W r
abbrev rdO (g : Gn) (W : WX) (r : Sl → Mem → R (Option Int)) : L2.TO := rdX g RO' W r

section
variable {g : Gn} {W : WX} {X : Cx}
/-- one thing ahead of another -/
theorem rdX.bind {α β γ δ : Type} {rel : Rho → Hp → Nat → α → γ → Prop} {rel2 : Rho → Hp → Nat → β → δ → Prop} {ra : Sl → Mem → R α} {rb : α → Sl → Mem → R β} {σ : L2.St} {H : Hp} {Q : δ → Hp → Prop} {Q1 : γ → Hp → Prop}
    (h : rdX g rel2 W (fun δ m => (ra δ m).bind fun x m => rb x δ m) σ H Q)
    (k : ∀ δ d m ρ F v H', MRel g ρ F m H' → RSl g ρ F m.length δ σ → rel ρ F m.length d v → Post g rel2 ρ F m H' (rb d δ m) Q (WE W σ) → Q1 v H') : rdX g rel W ra σ H Q1 := by
  obtain ⟨δ, m, ρ, F, M, rs, P⟩ := h
  exact ⟨δ, m, ρ, F, M, rs, P.bind fun d m' v H' ρ' F' x M' r P' => k δ d m' ρ' F' v H' M' (rs.mono x) r P'⟩
theorem rdX.bindE {α β γ δ : Type} {rel : Rho → Hp → Nat → α → γ → Prop} {rel2 : Rho → Hp → Nat → β → δ → Prop} {ra : Sl → Mem → R α} {rb : α → Sl → Mem → R β} {σ : L2.St} {H : Hp} {Q : δ → Hp → Prop} {Q1 : γ → Hp → Prop}
    (h : rdX g rel2 W (fun δ m => (ra δ m).bind fun x m => rb x δ m) σ H Q)
    (k : ∀ δ m0 d m, ra δ m0 = .ok d m → ∀ ρ F v H', MRel g ρ F m H' → RSl g ρ F m.length δ σ → rel ρ F m.length d v → Post g rel2 ρ F m H' (rb d δ m) Q (WE W σ) → Q1 v H') : rdX g rel W ra σ H Q1 := by
  obtain ⟨δ, m, ρ, F, M, rs, P⟩ := h
  exact ⟨δ, m, ρ, F, M, rs, P.bindE fun d m' e v H' ρ' F' x M' r P' => k δ m d m' e ρ' F' v H' M' (rs.mono x) r P'⟩
/-- .. where the second is a reading, too, that knows the first's value -/
theorem rdX.bind2 {α β γ δ : Type} {rel : Rho → Hp → Nat → α → γ → Prop} {rel2 : Rho → Hp → Nat → β → δ → Prop} {ra : Sl → Mem → R α} {rb : Sl → Mem → R β} {op : α → β → Mem → R D} {σ : L2.St} {H : Hp} {Q : VK} {q : γ → δ → Hp → VK → Prop}
    (mo : ∀ {ρ ρ1 : Rho} {F F1 : Hp} {m m1 : Mem} {H H1 : Hp} {a : α} {v : γ}, Ext ρ F m H ρ1 F1 m1 H1 → rel ρ F m.length a v → rel ρ1 F1 m1.length a v)
    (h : rdE g W (fun δ m => (ra δ m).bind fun x m => (rb δ m).bind fun y m => op x y m) σ H Q)
    (k : ∀ d e m ρ F v u H', MRel g ρ F m H' → rel ρ F m.length d v → rel2 ρ F m.length e u → PostD g ρ F m H' (op d e m) Q (WE W σ) → q v u H' Q) :
    rdX g rel W ra σ H fun x H1 => rdX g rel2 W rb σ H1 fun y H2 => q x y H2 Q := by
  refine rdX.bind h fun δ d m ρ F v H' M rs r P => ⟨δ, m, ρ, F, M, rs, P.bind fun e m2 u H2 ρ2 F2 x2 M2 r2 P2 => ?_⟩
  exact k d e m2 ρ2 F2 v u H2 M2 (mo x2 r) r2 P2
theorem rdE.op {ra rb : Sl → Mem → R D} {op : D → D → Mem → R D} {σ : L2.St} {H : Hp} {Q : VK}
    (h : rdE g W (fun δ m => (ra δ m).bind fun x m => (rb δ m).bind fun y m => op x y m) σ H Q) : tOp (rd2 g op) (rdE g W ra) (rdE g W rb) σ H Q :=
  rdX.bind2 (fun x r => r.mono x) h fun d e m ρ F v u H' M r1 r2 P => ⟨d, e, m, ρ, F, _, M, r1, r2, P⟩
/-- a bool -/
theorem asB_post {ρ : Rho} {F : Hp} {m : Mem} {H : Hp} {d : D} {v : V} {α γ : Type} {rel : Rho → Hp → Nat → α → γ → Prop} {f : Bool → Mem → R α} {Q : γ → Hp → Prop} {E : XK} (h : Post g rel ρ F m H ((asB d m).bind f) Q E) (r : RD g ρ F m.length d v) :
    ∃ b, d = .p (.bl b) ∧ v = .bl b ∧ Post g rel ρ F m H (f b m) Q E := by
  unfold asB at h
  split at h
  · rename_i b
    cases r
    exact ⟨b, rfl, rfl, h⟩
  · exact h.elim
/-- a test from a value -/
theorem rdT.val {ra : Sl → Mem → R D} {σ : L2.St} {H : Hp} {Q : Bool → Hp → Prop} (h : rdT g W (fun δ m => (ra δ m).bind asB) σ H Q) : tB (rdE g W ra) σ H Q := by
  obtain ⟨δ, m, ρ, F, M, rs, P⟩ := h
  refine ⟨δ, m, ρ, F, M, rs, P.bind fun d m' v H' ρ' F' x M' r P' => ?_⟩
  unfold asB at P'
  split at P'
  · rename_i b
    cases r
    exact ⟨b, rfl, P'.val M' rfl⟩
  · exact P'.elim

/-! ### the names -/
structure Cd where
  N : List Str
  sc : Scope
  fn : Str → Bool
structure Tb where
  fn : Nat → Option Str
  gl : Nat → Option Str
  cn : Nat → Option Str
  kw : Nat → Nat → List Str → Option (List Nat)
  fl : Nat → Option Str
  mn : Nat → Option Str
  cc : Nat → Option Str
  sn : Nat → Option Str
def isVis (cd : Cd) (x : Str) : Bool := match cd.sc.names.lookup x with
  | some .local => true | some .cell => true | some .free => true | _ => false
def isLoc (cd : Cd) (x : Str) : Bool := match cd.sc.names.lookup x with
  | some .local => true | some .cell => cd.fn x | _ => false
def isL (cd : Cd) (x : Str) : Bool := match cd.sc.names.lookup x with
  | some .local => true | _ => false
def isGl (cd : Cd) (x : Str) : Bool := match cd.sc.names.lookup x with
  | some .globalImplicit => true | _ => false
def nodb (x : Str) : Bool := !(x == ("__debug__" : Str)) && !(x == ("__classdict__" : Str))
/-- own methods by their numbers -/
def omN : Nat → Str
  | 0 => "__len__" | 1 => "__repr__" | 2 => "__contains__" | 3 => "__eq__" | 4 => "__bool__" | _ => "__call__"
/-- the def at a gives what callAt gives -/
def Fnr (g : Gn) (p : Pg) (lv : Nat) (X : Cx) (a : Addr) (f : Nat) : Prop :=
  FnR X.prog X.w X.K X.mg X.base (L2.CX X.prog X.w) (3 * lv + 2) a (fun vs H Q E => ∃ ds m ρ F, MRel g ρ F m H ∧ RDs g ρ F m.length ds vs ∧ PostD g ρ F m H (callAt p lv f ds m) Q E)
/-- what the context must bear; lv: how deep calls may go; their room -/
structure Cok (g : Gn) (T : Tb) (p : Pg) (lv : Nat) (X : Cx) (W : WX) (cd : Cd) : Prop where
  K : X.K = g.K
  kf : Kf g
  N : X.N = cd.N
  sc : X.env.scope = cd.sc
  fn : X.fn = cd.fn
  nd : X.N.Nodup
  calm : X.calm = true
  tk : Takes X W
  room : Room (3 * lv + 4) X.A
  bl : ∀ x ∈ (["isinstance", "range", "zip", "len", "int", "abs", "list", "tuple", "all", "any", "sum", "str", "bool", "dict", "enumerate", "sorted", "min", "max", "set", "type", "repr"] : List String), X.mg (Str.ofString x) = none
  call : ∀ f x, T.fn f = some x → ∃ a, X.mg x = some (.ref a) ∧ PySem.W.keepIn X.K (.ref a) = true ∧ Fnr g p lv X a f
  callK : ∀ f x np ks pm, T.fn f = some x → T.kw f np ks = some pm → ∃ a fd ps, X.mg x = some (.ref a) ∧ PySem.W.keepIn X.K (.ref a) = true ∧
    FnOk X.prog X.w X.K X.mg X.base (L2.CX X.prog X.w) (3 * lv + 2) a fd ps (fun vs H Q E => vs.length = ps.length ∧ ∃ ds m ρ F, MRel g ρ F m H ∧ RDs g ρ F m.length ds vs ∧ PostD g ρ F m H (callAt p lv f ds m) Q E) ∧
    pm.length = ps.length ∧ (∀ i ∈ pm, i < np + ks.length) ∧ KBn X.K fd ps np ks (permL pm) (permL pm)
  gl : ∀ n x, T.gl n = some x → ∃ v u, X.mg x = some u ∧ RelV v u ∧ ∀ F, RP g F (p.gv.c n) v
  cn : ∀ n x, T.cn n = some x → X.mg x = some (.ref (g.cA n)) ∧ g.cs n = true
  fl : ∀ n x, T.fl n = some x → g.fN n = x
  fk : ∀ c n, p.gv.fk c n = true → NoAttr X.K (g.cA c) (g.fN n)
  mt : ∀ c n f x, p.gv.mt c n = some f → T.mn n = some x → (∀ j, g.fN j ≠ x) ∧ ∃ a, Meth X.K (g.cA c) x a ∧ Fnr g p lv X a f
  pr : ∀ c n f x, p.gv.pr c n = some f → T.mn n = some x → ∃ q a, PropOf X.K (g.cA c) x q a ∧ Fnr g p lv X a f
  ini : ∀ c f, p.gv.ini c = some f → g.cs c = true ∧ ∃ a, Mk X.K (g.cA c) a ∧ Fnr g p lv X a f
  om : ∀ c k f, p.gv.om c k = some f → ∃ a, PySem.W.findIn X.K (.ref (g.cA c)) (omN k) = some (some (.ref a)) ∧ PySem.W.isFn X.K (.ref a) = true ∧ Fnr g p lv X a f
  one : ∀ c f, p.gv.om c 3 = some f → PySem.W.findIn X.K (.ref (g.cA c)) "__ne__" = some (some (.builtin "object.__ne__"))
  cc : ∀ c n x y, p.gv.cc c n = some y → T.cc n = some x → ∃ mc v u, ClX.CRead X.K (g.cA c) mc ∧ ClX.CVal X.K (g.cA c) mc x v u ∧ ∀ F, RP g F y v
  smK : ∀ c n f x d ks pm, p.gv.sm c n = some (f, true) → T.sn n = some x → p.fd f = some d → T.kw f 1 ks = some pm → ∃ mc q a fd ps, ClX.CRead X.K (g.cA c) mc ∧ ClX.CMet X.K (g.cA c) mc x q a ∧
    FnOk X.prog X.w X.K X.mg X.base (L2.CX X.prog X.w) (3 * lv + 2) a fd ps (fun vs H Q E => vs.length = ps.length ∧ ∃ ds m ρ F, MRel g ρ F m H ∧ RDs g ρ F m.length ds vs ∧ PostD g ρ F m H (callAt p lv f ds m) Q E) ∧
    pm.length = ps.length ∧ (∀ i ∈ pm, i < 1 + ks.length) ∧ KBn X.K fd ps 1 ks (permL pm) (permL pm)
  sm : ∀ c n f b x, p.gv.sm c n = some (f, b) → T.sn n = some x → ∃ mc q a, ClX.CRead X.K (g.cA c) mc ∧ Fnr g p lv X a f ∧ b = true ∧ ClX.CMet X.K (g.cA c) mc x q a
variable {T : Tb} {p : Pg} {lv : Nat} {cd : Cd}
theorem Cok.hu (c : Cok g T p lv X W cd) : X.A.units + 65 < cLine := by have := c.room.un; omega
theorem Cok.vis (c : Cok g T p lv X W cd) {x : Str} (h : isVis cd x = true) : Vis X.env.scope x := by
  unfold isVis at h
  rw [c.sc]
  split at h
  · rename_i e; exact .inl e
  · rename_i e; exact .inr (.inl e)
  · rename_i e; exact .inr (.inr e)
  · cases h
theorem Cok.loc (c : Cok g T p lv X W cd) {x : Str} (h : isLoc cd x = true) : Loc X.env.scope x ∧ (X.fn x = true ∨ X.env.scope.names.lookup x = some .local) := by
  unfold isLoc at h
  rw [c.sc, c.fn]
  split at h
  · rename_i e; exact ⟨.inl e, .inr e⟩
  · rename_i e; exact ⟨.inr e, .inl h⟩
  · cases h
theorem Cok.lcl (c : Cok g T p lv X W cd) {x : Str} (h : isL cd x = true) : X.env.scope.names.lookup x = some .local := by
  unfold isL at h
  rw [c.sc]
  split at h
  · rename_i e; exact e
  · cases h
theorem Cok.glb (c : Cok g T p lv X W cd) {x : Str} (h : isGl cd x = true) : Gl X x := by
  unfold isGl at h
  unfold Gl Env.kindOf
  rw [c.sc]
  split at h
  · rename_i e; exact e
  · cases h
theorem nodb_ok {x : Str} (h : nodb x = true) : (x == ("__debug__" : Str)) = false ∧ (x == ("__classdict__" : Str)) = false := by
  unfold nodb at h
  simpa using h

/-! ### plain cases -/
theorem e_var (c : Cok g T p lv X W cd) {i : Nat} {x : Str} {pos : Pos} (hi : cd.N[i]? = some x) (hv : isVis cd x = true) (hd : nodb x = true) :
    PE X (.Name x pos) (rdE g W fun δ m => match δ[i]? with | some (some d) => .ok d m | _ => .no) := by
  refine (pe_var (i := i) (by rw [c.N]; exact hi) (c.vis hv) (nodb_ok hd).1 (nodb_ok hd).2).imp fun σ H Q ⟨δ, m, ρ, F, M, rs, P⟩ => ?_
  dsimp only at P
  split at P
  · rename_i d e
    obtain ⟨v, e1, r⟩ := rs.get i d e
    exact ⟨v, e1, P.val M r⟩
  · exact P.elim
theorem e_glo (c : Cok g T p lv X W cd) {n : Nat} {x : Str} {pos : Pos} (hi : T.gl n = some x) (hv : isGl cd x = true) (hd : nodb x = true) :
    PE X (.Name x pos) (rdE g W fun _ m => .ok (.p (p.gv.c n)) m) := by
  obtain ⟨v, u, h1, h2, h3⟩ := c.gl n x hi
  exact (pe_glob (c.glb hv) h1 h2 (nodb_ok hd).1).imp fun σ H Q ⟨δ, m, ρ, F, M, rs, P⟩ => P.val M (h3 F)
def cstOk : P → Const → Bool
  | .non, .none => true
  | .bl b, .bool c => b == c
  | .int i, .int j => decide (i = j)
  | .str x, .str y => decide (x = y) && decide (x.length ≤ 10000)
  | _, _ => false
theorem e_cst {x : P} {k : Const} {j : Nat} {pos : Pos} (h : cstOk x k = true) : PE X (.Constant k j pos) (rdE g W fun _ m => .ok (.p x) m) := by
  unfold cstOk at h
  split at h
  · exact pe_non.imp fun σ H Q ⟨δ, m, ρ, F, M, rs, P⟩ => P.val M RP.non
  · rw [eq_of_beq h]
    exact pe_bl.imp fun σ H Q ⟨δ, m, ρ, F, M, rs, P⟩ => P.val M (RP.bl _)
  · rw [of_decide_eq_true h]
    exact pe_int.imp fun σ H Q ⟨δ, m, ρ, F, M, rs, P⟩ => P.val M (RP.int _)
  · obtain ⟨h1, h2⟩ := Bool.and_eq_true_iff.mp h
    rw [← of_decide_eq_true h1]
    exact pe_str.imp fun σ H Q ⟨δ, m, ρ, F, M, rs, P⟩ => P.val M (RP.str _ (Nat.le_trans (of_decide_eq_true h2) (by rw [PySem.sizeLine_eq]; decide)))
  · cases h
theorem e_bin (c : Cok g T p lv X W cd) {o : BOp} {a b : Expr} {pos : Pos} {ra rb : Sl → Mem → R D} (ha : PE X a (rdE g W ra)) (hb : PE X b (rdE g W rb)) :
    PE X (.BinOp a (bO o) b pos) (rdE g W fun δ m => (ra δ m).bind fun x m => (rb δ m).bind fun y m => binS o x y m) :=
  (pe_op (bin_ok c.K o) ha hb).imp fun _ _ _ h => rdE.op h
theorem e_neg {a : Expr} {pos : Pos} {ra : Sl → Mem → R D} (ha : PE X a (rdE g W ra)) :
    PE X (.UnaryOp .USub a pos) (rdE g W fun δ m => (ra δ m).bind fun x m => match x with | .p (.int i) => .ok (.p (.int (-i))) m | _ => .no) :=
  (pe_un un_neg ha).imp fun _ _ _ h => rdX.bind h fun δ d m ρ F v H' M rs r P => by
    split at P
    · cases r
      exact ⟨_, rfl, P.val M (RP.int _)⟩
    · exact P.elim
def noSet : Expr → Bool
  | .Set .. => false
  | _ => true
theorem noSet_ok {op : CmpOp} {b : Expr} (h : noSet b = true) : behindInMarks op b = false := by cases b <;> first | rfl | cases h
theorem wish_no {X : Cx} {s : Shared} {H : Hp} {e : Value} {s' : Shared} {W : WX} {σ : L2.St} {pins : List (Addr × Obj)} (I : Inv X pins σ H s) (h : L2.CX X.prog X.w X.stack H s (fun _ _ _ => False) e s') (tk : Takes X W) : X.xe e s' :=
  tk e s' (XE.of_call I (fun _ _ _ z => z.elim) h)
/-- a callee that does not raise -/
theorem run_calm (c : Cok g T p lv X W cd) {A : Around} (hr : Room (3 * lv + 2) A) (hA : A.frames = X.A.frames) {f : Nat} {a : Addr} {pins : List (Addr × Obj)} {σ : L2.St} {H : Hp} {s : Shared} {Q : VK} {us : List Value} {vs : List V}
    (Fn : Fnr g p lv X a f) (I : Inv X pins σ H s) (r : Vals vs us) {ds : List D} {m : Mem} {ρ : Rho} {F : Hp} {E : XK} (M : MRel g ρ F m H) (rd : RDs g ρ F m.length ds vs) (h : PostD g ρ F m H (callAt p lv f ds m).calm Q E) :
    wpAny (model X.prog X.w) A (call (.ref a) us) (EP X pins σ Q) X.xe s := by
  have e0 : Env0 X.prog X.w X.K X.mg X.base A X.stack s H := by
    have e := I.env0
    exact ⟨by rw [hA]; exact e.frames, e.mod, e.bs, e.bsz, e.funs, e.frf, e.hok, e.bare⟩
  have h' : PostD g ρ F m H (callAt p lv f ds m) Q (fun _ _ _ => False) := by
    cases q : callAt p lv f ds m with
    | ok d m' => rw [q] at h; exact h
    | ex x m' => rw [q] at h; exact h.elim
    | no => rw [q] at h; exact h.elim
  refine wpAny_call (codeAny_mono (Fn A X.stack s H us vs Q (fun _ _ _ => False) hr e0 r ⟨ds, m, ρ, F, M, rd, h'⟩) fun r s' hq => ?_)
  cases r with
  | error e => exact wish_no I hq c.tk
  | ok fl =>
    cases fl with
    | ret u => exact I.after hq
    | next => exact False.elim hq
    | brk => exact False.elim hq
    | cont => exact False.elim hq
theorem kind_looks (c : Cok g T p lv X W cd) {ρ : Rho} {F H : Hp} {m : Mem} {pins : List (Addr × Obj)} {σ : L2.St} {s : Shared} (I : Inv X pins σ H s) (M : MRel g ρ F m H) {d : D} {v : V} {u : Value} (r : RD g ρ F m.length d v) (ru : RelV v u) {C : Addr} (hk : (kindS d m).isSome = true) (hc : ∀ k, g.cs k = true → PySem.W.notFirst X.K C (.ref (g.cA k)) = true) :
    ∃ tb, PySem.W.Looks (model X.prog X.w) s.heap (typeOf u) tb ∧ PySem.W.notFirst X.K C tb = true := by
  cases e : kindS d m with
  | none => rw [e] at hk; cases hk
  | some k =>
    obtain ⟨k1, k2, k3⟩ := kind_ok c.kf M r e
    rw [← c.K] at k1
    obtain ⟨P, kx, hp, _⟩ := kit_of I ru k1
    refine ⟨_, kx.ty _ _ I.kIn hp, ?_⟩
    cases k with
    | inl j => exact hc j (k2 j rfl)
    | inr t => exact notFirst_bt (k3 t rfl)
theorem ins_at {ρ : Rho} {F H : Hp} {m : Mem} (M : MRel g ρ F m H) {d : D} {v : V} {c : Nat} (e : clsS d m = some c) (r : RD g ρ F m.length d v) : ∃ a dx fs, v = .ref a ∧ H a = some (.ins (g.cA c) dx fs) ∧ g.cs c = true := by
  unfold clsS at e
  split at e
  · cases e
    cases r with
    | ins z h t => exact ⟨_, _, _, rfl, M.sub.ins h, z⟩
  · rename_i n
    split at e
    · rename_i c' l q
      cases e
      obtain ⟨ho, rfl, h1, h2⟩ := M.look q r
      obtain ⟨dx, fs, rfl, h3, h4⟩ := rmo_ins h2
      exact ⟨_, dx, fs, rfl, h1, h3⟩
    · cases e
  · cases e
theorem ansB_ok {ρ : Rho} {F H : Hp} {m : Mem} {f : Bool → Bool} {d : D} {v : V} {Q : VK} {E : XK} (h : PostD g ρ F m H (ansB f d m) Q E) (M : MRel g ρ F m H) (r : RD g ρ F m.length d v) : ∃ b, v = .bl b ∧ Q (.bl (f b)) H := by
  unfold ansB at h
  split at h
  · cases r; exact ⟨_, rfl, h.val M (RP.bl _)⟩
  · exact h.elim
theorem eq_run (c : Cok g T p lv X W cd) {cn f : Nat} {ρ : Rho} {F H : Hp} {m : Mem} {pins : List (Addr × Obj)} {σ : L2.St} {s : Shared} {Q : VK} {E : XK} (I : Inv X pins σ H s) (M : MRel g ρ F m H) {d e : D} {x y : V} {v u : Value} (hd : RD g ρ F m.length d x) (he : RD g ρ F m.length e y) (rx : RelV x v) (ry : RelV y u)
    (ec : clsS d m = some cn) (ef : p.gv.om cn 3 = some f) (ek : (kindS e m).isSome = true) (neg : Bool)
    (h : PostD g ρ F m H ((callAt p lv f [d, e] m).calm.bind (ansB (if neg then not else id))) Q E) :
    wpAny (model X.prog X.w) X.A (compareOp (if neg then .NotEq else .Eq) v u) (EP X pins σ Q) X.xe s := by
  obtain ⟨a, dx, fs, rfl, ha, hc⟩ := ins_at M ec hd
  cases (show v = Value.ref a from rx)
  obtain ⟨mA, O, _⟩ := ins_get I.hok ha
  obtain ⟨od, J, _⟩ := O.look
  obtain ⟨g1, g2, g3, Fn⟩ := c.om cn 3 f ef
  obtain ⟨tb, lk, nf⟩ := kind_looks c (C := g.cA cn) I M he ry ek fun k hk => by rw [c.K]; exact c.kf.nf cn k hc hk
  obtain ⟨ms, hF⟩ := I.fr
  have rd : RDs g ρ F m.length [d, e] [.ref a, y] := ⟨hd, he, trivial⟩
  have rv : Vals [V.ref a, y] [Value.ref a, u] := .cons rfl (.cons ry .nil)
  cases neg with
  | false =>
    show wpAny (model X.prog X.w) X.A (richCompare .Eq (.ref a) u) (EP X pins σ Q) X.xe s
    refine PySem.W.cmp_K (op := .Eq) (tb := tb) c.room.units0 hF I.ok.mod.kin J lk nf g2 g3 ?_
    refine wpAny_mono (run_calm c (c.room.mono (by omega)) rfl Fn I rv M rd (Q := fun v H' => ∃ b, v = .bl b ∧ Q (.bl b) H') (h.bind fun r m' w H' ρ' F' x M' rr P => ansB_ok P M' rr)) (fun w s' z => ?_) fun _ _ x => x
    obtain ⟨w', H', I', rw', b, rfl, q⟩ := z
    cases (show w = Value.bool b from rw')
    exact ⟨.bl b, H', I', rfl, q⟩
  | true =>
    show wpAny (model X.prog X.w) X.A (richCompare .NotEq (.ref a) u) (EP X pins σ Q) X.xe s
    refine ne_K (tb := tb) (by have := c.hu; omega) I.kIn J lk nf (by rw [c.K]; exact c.kf.cm _ hc) (c.one cn f ef) g2 g3 ?_
    refine wpAny_mono (run_calm c (c.room.in1.mono (by omega)) rfl Fn I rv M rd (Q := fun v H' => ∃ b, v = .bl b ∧ Q (.bl (!b)) H') (h.bind fun r m' w H' ρ' F' x M' rr P => ansB_ok P M' rr)) (fun w s' z => ?_) fun _ _ x => x
    obtain ⟨w', H', I', rw', b, rfl, q⟩ := z
    cases (show w = Value.bool b from rw')
    exact ⟨b, rfl, .bl (!b), H', I', rfl, q⟩
theorem in_own (c : Cok g T p lv X W cd) {cn f : Nat} {ρ : Rho} {F H : Hp} {m : Mem} {pins : List (Addr × Obj)} {σ : L2.St} {s : Shared} {Q : VK} {E : XK} (I : Inv X pins σ H s) (M : MRel g ρ F m H) {d e : D} {x y : V} {v u : Value} (hd : RD g ρ F m.length d x) (he : RD g ρ F m.length e y) (rx : RelV x v) (ry : RelV y u)
    (ec : clsS e m = some cn) (ef : p.gv.om cn 2 = some f) (neg : Bool)
    (h : PostD g ρ F m H ((callAt p lv f [e, d] m).calm.bind (ansB (if neg then not else id))) Q E) :
    wpAny (model X.prog X.w) X.A (compareOp (if neg then .NotIn else .In) v u) (EP X pins σ Q) X.xe s := by
  obtain ⟨a, dx, fs, rfl, ha, hc⟩ := ins_at M ec he
  cases (show u = Value.ref a from ry)
  obtain ⟨mA, O, _⟩ := ins_get I.hok ha
  obtain ⟨od, J, _⟩ := O.look
  obtain ⟨g1, g2, g3, Fn⟩ := c.om cn 2 f ef
  obtain ⟨ms, hF⟩ := I.fr
  have rd : RDs g ρ F m.length [e, d] [.ref a, x] := ⟨he, hd, trivial⟩
  have rv : Vals [V.ref a, x] [Value.ref a, v] := .cons rfl (.cons rx .nil)
  cases neg with
  | false =>
    refine PySem.W.in_K hF I.ok.mod.kin J g2 g3 ?_
    refine wpAny_mono (run_calm c (c.room.mono (by omega)) rfl Fn I rv M rd (Q := fun v H' => ∃ b, v = .bl b ∧ Q (.bl b) H') (h.bind fun r m' w H' ρ' F' x M' rr P => ansB_ok P M' rr)) (fun w s' z => ?_) fun _ _ x => x
    obtain ⟨w', H', I', rw', b, rfl, q⟩ := z
    cases (show w = Value.bool b from rw')
    exact wpAny_truthy_bool ⟨.bl b, H', I', rfl, q⟩
  | true =>
    refine PySem.W.notIn_K hF I.ok.mod.kin J g2 g3 ?_
    refine wpAny_mono (run_calm c (c.room.mono (by omega)) rfl Fn I rv M rd (Q := fun v H' => ∃ b, v = .bl b ∧ Q (.bl (!b)) H') (h.bind fun r m' w H' ρ' F' x M' rr P => ansB_ok P M' rr)) (fun w s' z => ?_) fun _ _ x => x
    obtain ⟨w', H', I', rw', b, rfl, q⟩ := z
    cases (show w = Value.bool b from rw')
    exact wpAny_truthy_bool ⟨.bl (!b), H', I', rfl, q⟩
theorem cmpO_ok (c : Cok g T p lv X W cd) (o : COp) : OpR X (compareOp (cO o)) (rd2 g (cmpO (callAt p lv) p.gv o)) := by
  have base : ∀ o, OpR X (compareOp (cO o)) (rd2 g (cmpS o)) := cmp_ok c.K c.hu
  rintro pins s σ H x y v u Q I rx ry ⟨d, e, m, ρ, F, E, M, hd, he, h⟩
  cases o with
  | eq =>
    unfold cmpO at h
    simp only at h
    split at h
    · rename_i cn ec
      split at h
      · rename_i f ef
        split at h
        · rename_i ek
          exact eq_run c I M hd he rx ry ec ef ek false h
        · exact h.elim
      · exact h.elim
    · exact base .eq pins s σ H x y v u Q I rx ry ⟨d, e, m, ρ, F, E, M, hd, he, h⟩
  | ne =>
    unfold cmpO at h
    simp only at h
    split at h
    · rename_i cn ec
      split at h
      · rename_i f ef
        split at h
        · rename_i ek
          exact eq_run c I M hd he rx ry ec ef ek true h
        · exact h.elim
      · exact h.elim
    · exact base .ne pins s σ H x y v u Q I rx ry ⟨d, e, m, ρ, F, E, M, hd, he, h⟩
  | inn =>
    unfold cmpO at h
    simp only at h
    split at h
    · rename_i cn ec
      split at h
      · rename_i f ef
        exact in_own c I M hd he rx ry ec ef false h
      · exact h.elim
    · exact base .inn pins s σ H x y v u Q I rx ry ⟨d, e, m, ρ, F, E, M, hd, he, h⟩
  | nin =>
    unfold cmpO at h
    simp only at h
    split at h
    · rename_i cn ec
      split at h
      · rename_i f ef
        exact in_own c I M hd he rx ry ec ef true h
      · exact h.elim
    · exact base .nin pins s σ H x y v u Q I rx ry ⟨d, e, m, ρ, F, E, M, hd, he, h⟩
  | _ => exact base _ pins s σ H x y v u Q I rx ry ⟨d, e, m, ρ, F, E, M, hd, he, h⟩
theorem e_cmp (c : Cok g T p lv X W cd) {o : COp} {a b : Expr} {pos : Pos} {ra rb : Sl → Mem → R D} (ha : PE X a (rdE g W ra)) (hb : PE X b (rdE g W rb)) (hn : noSet b = true) :
    PE X (.Compare a [cO o] [b] pos) (rdE g W fun δ m => (ra δ m).bind fun x m => (rb δ m).bind fun y m => cmpO (callAt p lv) p.gv o x y m) :=
  (pe_cmpR (cmpO_ok c o) ha hb (noSet_ok hn)).imp fun _ _ _ h => rdE.op h
theorem t_cmp (c : Cok g T p lv X W cd) {o : COp} {a b : Expr} {pos : Pos} {ra rb : Sl → Mem → R D} (ha : PE X a (rdE g W ra)) (hb : PE X b (rdE g W rb)) (hn : noSet b = true) :
    PT X (.Compare a [cO o] [b] pos) (rdT g W fun δ m => ((ra δ m).bind fun x m => (rb δ m).bind fun y m => cmpO (callAt p lv) p.gv o x y m).bind asB) := by
  refine (pt_cmpR (cmpO_ok c o) ha hb (noSet_ok hn)).imp fun _ _ _ h => ?_
  exact rdE.op (rdT.val h)
theorem last2 {o o' : CmpOp} {b c : Expr} (h : noSet c = true) : lastMarks [o, o'] [b, c] = false := noSet_ok h
theorem chain_rd {o o' : COp} {ra rb rc : Sl → Mem → R D} {σ : L2.St} {H : Hp} {Q : VK}
    (h : rdE g W (fun δ m => (ra δ m).bind fun x m => (rb δ m).bind fun y m => (cmpS o x y m).bind fun k m => (asB k m).bind fun k m => if k then (rc δ m).bind fun z m => cmpS o' y z m else .ok (.p (.bl false)) m) σ H Q) :
    tChain (rd2 g (cmpS o)) (rd2 g (cmpS o')) (rdE g W ra) (rdE g W rb) (rdE g W rc) σ H Q := by
  refine rdX.bind h fun δ d m ρ F v H' M rs r P => ⟨δ, m, ρ, F, M, rs, P.bind fun e m2 u H2 ρ2 F2 x2 M2 r2 P2 => ?_⟩
  refine ⟨d, e, m2, ρ2, F2, WE W σ, M2, r.mono x2, r2, P2.bind fun k m3 z H3 ρ3 F3 x3 M3 r3 P3 => ?_⟩
  obtain ⟨b, rfl, rfl, P4⟩ := asB_post P3 r3
  refine ⟨b, rfl, ?_⟩
  cases b with
  | false => exact P4.val M3 (RP.bl _)
  | true => exact ⟨δ, m3, ρ3, F3, M3, (rs.mono x2).mono x3, P4.bind fun z m4 y H4 ρ4 F4 x4 M4 r4 P5 => ⟨e, z, m4, ρ4, F4, WE W σ, M4, (r2.mono x3).mono x4, r4, P5⟩⟩
theorem e_cmp2 (c : Cok g T p lv X W cd) {o o' : COp} {a b e : Expr} {pos : Pos} {ra rb rc : Sl → Mem → R D} (ha : PE X a (rdE g W ra)) (hb : PE X b (rdE g W rb)) (he : PE X e (rdE g W rc)) (hn : noSet e = true) :
    PE X (.Compare a [cO o, cO o'] [b, e] pos) (rdE g W fun δ m => (ra δ m).bind fun x m => (rb δ m).bind fun y m => (cmpS o x y m).bind fun k m => (asB k m).bind fun k m => if k then (rc δ m).bind fun z m => cmpS o' y z m else .ok (.p (.bl false)) m) :=
  (pe_chain (cmp_ok c.K c.hu o) (cmp_ok c.K c.hu o') ha hb he (last2 hn)).imp fun _ _ _ h => chain_rd h
theorem t_cmp2 (c : Cok g T p lv X W cd) {o o' : COp} {a b e : Expr} {pos : Pos} {ra rb rc : Sl → Mem → R D} (ha : PE X a (rdE g W ra)) (hb : PE X b (rdE g W rb)) (he : PE X e (rdE g W rc)) (hn : noSet e = true) :
    PT X (.Compare a [cO o, cO o'] [b, e] pos) (rdT g W fun δ m => ((ra δ m).bind fun x m => (rb δ m).bind fun y m => (cmpS o x y m).bind fun k m => (asB k m).bind fun k m => if k then (rc δ m).bind fun z m => cmpS o' y z m else .ok (.p (.bl false)) m).bind asB) :=
  (pt_chain (cmp_ok c.K c.hu o) (cmp_ok c.K c.hu o') ha hb he (last2 hn)).imp fun _ _ _ h => chain_rd (rdT.val h)
theorem e_and {a b : Expr} {l : List Expr} {pos : Pos} {ra rb : Sl → Mem → R D} (ha : PE X a (rdE g W ra)) (hb : PE X (.BoolOp .And (b :: l) pos) (rdE g W rb)) :
    PE X (.BoolOp .And (a :: b :: l) pos) (rdE g W fun δ m => (ra δ m).bind fun x m => (asB x m).bind fun x m => if x then rb δ m else .ok (.p (.bl false)) m) := by
  refine (pe_and ha hb).imp fun σ H Q h => rdX.bind h fun δ d m ρ F v H' M rs r P => ?_
  obtain ⟨b, rfl, rfl, P2⟩ := asB_post P r
  refine ⟨b, rfl, ?_⟩
  cases b with
  | false => exact P2.val M (RP.bl _)
  | true => exact ⟨δ, m, ρ, F, M, rs, P2⟩
theorem e_or {a b : Expr} {l : List Expr} {pos : Pos} {ra rb : Sl → Mem → R D} (ha : PE X a (rdE g W ra)) (hb : PE X (.BoolOp .Or (b :: l) pos) (rdE g W rb)) :
    PE X (.BoolOp .Or (a :: b :: l) pos) (rdE g W fun δ m => (ra δ m).bind fun x m => (asB x m).bind fun x m => if x then .ok (.p (.bl true)) m else rb δ m) := by
  refine (pe_or ha hb).imp fun σ H Q h => rdX.bind h fun δ d m ρ F v H' M rs r P => ?_
  obtain ⟨b, rfl, rfl, P2⟩ := asB_post P r
  refine ⟨b, rfl, ?_⟩
  cases b with
  | true => exact P2.val M (RP.bl _)
  | false => exact ⟨δ, m, ρ, F, M, rs, P2⟩
theorem e_not {a : Expr} {pos : Pos} {ra : Sl → Mem → R D} (ha : PE X a (rdE g W ra)) :
    PE X (.UnaryOp .Not a pos) (rdE g W fun δ m => (ra δ m).bind fun x m => (asB x m).bind fun x m => .ok (.p (.bl (!x))) m) := by
  refine (pe_not ha).imp fun σ H Q h => rdX.bind h fun δ d m ρ F v H' M rs r P => ?_
  obtain ⟨b, rfl, rfl, P2⟩ := asB_post P r
  exact ⟨b, rfl, P2.val M (RP.bl _)⟩
/-- the tests -/
theorem bB {ra : R D} {k : Bool → Mem → R D} {α : Type} (f : D → Mem → R α) : ((ra.bind fun x m => (asB x m).bind k).bind f) = (ra.bind asB).bind fun b m => (k b m).bind f := by
  cases ra with
  | ok d m =>
    show ((asB d m).bind k).bind f = (asB d m).bind fun b m => (k b m).bind f
    cases asB d m <;> rfl
  | ex x m => rfl
  | no => rfl
theorem _root_.L2.PW.imp {X : Cx} {e : Expr} {t t' : TT} (h : PW X e t) (k : ∀ σ H Q, t' σ H Q → t σ H Q) : PW X e t' := ⟨fun wh pins s σ H Q I q => h.run wh pins s σ H Q I (k σ H Q q)⟩
theorem t_and {a b : Expr} {l : List Expr} {pos : Pos} {ra rb : Sl → Mem → R D} (ha : PT X a (rdT g W fun δ m => (ra δ m).bind asB)) (hb : PW X (.BoolOp .And (b :: l) pos) (rdT g W fun δ m => (rb δ m).bind asB)) :
    PW X (.BoolOp .And (a :: b :: l) pos) (rdT g W fun δ m => ((ra δ m).bind fun x m => (asB x m).bind fun x m => if x then rb δ m else .ok (.p (.bl false)) m).bind asB) := by
  refine (pw_and ha hb).imp fun σ H Q h => ?_
  obtain ⟨δ, m, ρ, F, M, rs, P⟩ := h
  dsimp only at P
  rw [bB] at P
  refine ⟨δ, m, ρ, F, M, rs, P.bind fun d m' v H' ρ' F' x M' r P' => ?_⟩
  subst r
  cases v with
  | true => exact ⟨δ, m', ρ', F', M', rs.mono x, P'⟩
  | false => exact P'.val M' rfl
theorem t_or {a b : Expr} {l : List Expr} {pos : Pos} {ra rb : Sl → Mem → R D} (ha : PT X a (rdT g W fun δ m => (ra δ m).bind asB)) (hb : PW X (.BoolOp .Or (b :: l) pos) (rdT g W fun δ m => (rb δ m).bind asB)) :
    PW X (.BoolOp .Or (a :: b :: l) pos) (rdT g W fun δ m => ((ra δ m).bind fun x m => (asB x m).bind fun x m => if x then .ok (.p (.bl true)) m else rb δ m).bind asB) := by
  refine (pw_or ha hb).imp fun σ H Q h => ?_
  obtain ⟨δ, m, ρ, F, M, rs, P⟩ := h
  dsimp only at P
  rw [bB] at P
  refine ⟨δ, m, ρ, F, M, rs, P.bind fun d m' v H' ρ' F' x M' r P' => ?_⟩
  subst r
  cases v with
  | false => exact ⟨δ, m', ρ', F', M', rs.mono x, P'⟩
  | true => exact P'.val M' rfl
theorem t_not {a : Expr} {pos : Pos} {ra : Sl → Mem → R D} (ha : PT X a (rdT g W fun δ m => (ra δ m).bind asB)) :
    PT X (.UnaryOp .Not a pos) (rdT g W fun δ m => ((ra δ m).bind fun x m => (asB x m).bind fun x m => .ok (.p (.bl (!x))) m).bind asB) := by
  refine (pt_not ha).imp fun σ H Q h => ?_
  obtain ⟨δ, m, ρ, F, M, rs, P⟩ := h
  dsimp only at P
  rw [bB] at P
  refine ⟨δ, m, ρ, F, M, rs, P.bind fun d m' v H' ρ' F' x M' r P' => ?_⟩
  subst r
  exact P'.val M' rfl
/-- a test of no form of its own -/
def plainT : Expr → Bool
  | .UnaryOp .Not .. => false
  | .BoolOp .. => false
  | .IfExp .. => false
  | .Compare .. => false
  | _ => true
theorem t_val {e : Expr} {ra : Sl → Mem → R D} (he : PE X e (rdE g W ra)) (hp : plainT e = true) : PT X e (rdT g W fun δ m => (ra δ m).bind asB) := by
  refine (pt_val he fun whole => ?_).imp fun σ H Q h => rdT.val h
  cases e <;> first
    | rfl
    | cases hp
    | (rename_i op _ _; cases op <;> first | rfl | cases hp)
theorem e_ite {c a b : Expr} {pos : Pos} {rc ra rb : Sl → Mem → R D} (hc : PT X c (rdT g W fun δ m => (rc δ m).bind asB)) (ha : PE X a (rdE g W ra)) (hb : PE X b (rdE g W rb)) :
    PE X (.IfExp c a b pos) (rdE g W fun δ m => (rc δ m).bind fun x m => (asB x m).bind fun x m => if x then ra δ m else rb δ m) := by
  refine (pe_ifExp hc ha hb).imp fun σ H Q h => ?_
  obtain ⟨δ, m, ρ, F, M, rs, P⟩ := h
  have P : PostD g ρ F m H (((rc δ m).bind asB).bind fun x m => if x then ra δ m else rb δ m) Q (WE W σ) := by
    have e : ((rc δ m).bind fun x m => (asB x m).bind fun x m => if x then ra δ m else rb δ m) = ((rc δ m).bind asB).bind fun x m => if x then ra δ m else rb δ m := by cases rc δ m <;> rfl
    rw [← e]; exact P
  refine ⟨δ, m, ρ, F, M, rs, P.bind fun d m' v H' ρ' F' x M' r P' => ?_⟩
  subst r
  cases v with
  | false => exact ⟨δ, m', ρ', F', M', rs.mono x, P'⟩
  | true => exact ⟨δ, m', ρ', F', M', rs.mono x, P'⟩
def noSl : Expr → Bool
  | .Slice .. => false
  | _ => true
theorem plainIx_of {b : Expr} (h : noSl b = true) : PlainIx b := by
  intro o i
  cases b <;> first | rfl | cases h
theorem e_ix (c : Cok g T p lv X W cd) {a b : Expr} {pos : Pos} {ra rb : Sl → Mem → R D} (ha : PE X a (rdE g W ra)) (hb : PE X b (rdE g W rb)) (hn : noSl b = true) :
    PE X (.Subscript a b pos) (rdE g W fun δ m => (ra δ m).bind fun x m => (rb δ m).bind fun y m => ixS x y m) :=
  (pe_ix (ix_ok c.K c.hu) ha hb (plainIx_of hn)).imp fun _ _ _ h => rdE.op h
theorem o_none : L2.PO X none (rdO g W fun _ m => .ok none m) := L2.po_none.imp fun σ H Q ⟨δ, m, ρ, F, M, rs, P⟩ => P.val M rfl
theorem o_some {e : Expr} {ra : Sl → Mem → R D} (he : PE X e (rdE g W ra)) : L2.PO X (some e) (rdO g W fun δ m => (ra δ m).bind fun x m => match x with | .p (.int i) => .ok (some i) m | _ => .no) :=
  (L2.po_some he).imp fun σ H Q h => rdX.bind h fun δ d m ρ F v H' M rs r P => by
    split at P
    · cases r
      exact ⟨_, rfl, P.val M rfl⟩
    · exact P.elim
theorem e_sl (c : Cok g T p lv X W cd) {a : Expr} {lo hi : Option Expr} {pos p2 : Pos} {ra : Sl → Mem → R D} {rl rh : Sl → Mem → R (Option Int)} (ha : PE X a (rdE g W ra)) (hl : L2.PO X lo (rdO g W rl)) (hh : L2.PO X hi (rdO g W rh)) :
    PE X (.Subscript a (.Slice lo hi none p2) pos) (rdE g W fun δ m => (ra δ m).bind fun x m => (rl δ m).bind fun i m => (rh δ m).bind fun j m => slS x i j m) := by
  refine (L2.pe_slice (sl_ok c.K) ha hl hh).imp fun σ H Q h => rdX.bind h fun δ d m ρ F v H' M rs r P => ?_
  refine ⟨δ, m, ρ, F, M, rs, P.bind fun i m2 i' H2 ρ2 F2 x2 M2 r2 P2 => ⟨δ, m2, ρ2, F2, M2, rs.mono x2, P2.bind fun j m3 j' H3 ρ3 F3 x3 M3 r3 P3 => ?_⟩⟩
  subst r2 r3
  exact ⟨d, m3, ρ3, F3, _, M3, (r.mono x2).mono x3, P3⟩
/-- freezing: nothing is done -/
theorem frzL_rel {f : D → Mem → Option (P × Mem)} {H : Hp} (hf : ∀ d m x m' ρ F v, f d m = some (x, m') → MRel g ρ F m H → RD g ρ F m.length d v → ∃ F', Ext ρ F m H ρ F' m' H ∧ MRel g ρ F' m' H ∧ RP g F' x v) :
    ∀ {l : List D} {m m' : Mem} {xs : List P} {ρ : Rho} {F : Hp} {vs : List V}, frzL f l m = some (xs, m') → MRel g ρ F m H → RDs g ρ F m.length l vs → ∃ F', Ext ρ F m H ρ F' m' H ∧ MRel g ρ F' m' H ∧ RPs g F' xs vs
  | [], m, m', xs, ρ, F, vs, e, M, r => by
    cases e
    cases vs with
    | nil => exact ⟨F, Ext.refl, M, .nil⟩
    | cons _ _ => exact r.elim
  | d :: l, m, m', xs, ρ, F, vs, e, M, r => by
    cases vs with
    | nil => exact r.elim
    | cons v vs =>
      unfold frzL at e
      split at e
      · rename_i x m1 e1
        split at e
        · rename_i xs' m2 e2
          cases e
          obtain ⟨F1, x1, M1, r1⟩ := hf d m x m1 ρ F v e1 M r.1
          obtain ⟨F2, x2, M2, r2⟩ := frzL_rel hf (l := l) e2 M1 (RDs.mono x1 r.2)
          exact ⟨F2, x1.trans x2, M2, .cons (RP.up x2.Sub r1) r2⟩
        · cases e
      · cases e
theorem rdk_snd {ρ : Rho} {F : Hp} {k : Nat} : ∀ {l : List (P × D)} {vs : List (Key × V)}, RDk g ρ F k l vs → RDs g ρ F k (l.map (·.2)) (vs.map (·.2))
  | [], [], _ => trivial
  | _ :: _, _ :: _, h => ⟨h.1.2, rdk_snd h.2⟩
  | [], _ :: _, h => h.elim
  | _ :: _, [], h => h.elim
theorem rdt_snd {ρ : Rho} {F : Hp} {k : Nat} : ∀ {l : List (P × D)} {vs : List (List Key × V)}, RDt g ρ F k l vs → RDs g ρ F k (l.map (·.2)) (vs.map (·.2))
  | [], [], _ => trivial
  | _ :: _, _ :: _, h => ⟨h.1.2, rdt_snd h.2⟩
  | [], _ :: _, h => h.elim
  | _ :: _, [], h => h.elim
theorem rdf_snd {ρ : Rho} {F : Hp} {k : Nat} : ∀ {l : List (Nat × D)} {vs : List (Str × V)}, RDf g ρ F k l vs → RDs g ρ F k (l.map (·.2)) (vs.map (·.2))
  | [], [], _ => trivial
  | _ :: _, _ :: _, h => ⟨h.1.2, rdf_snd h.2⟩
  | [], _ :: _, h => h.elim
  | _ :: _, [], h => h.elim
theorem rpk_zip {ρ : Rho} {F F' : Hp} {k : Nat} : ∀ {l : List (P × D)} {ps : List P} {vs : List (Key × V)}, RDk g ρ F k l vs → RPs g F' ps (vs.map (·.2)) → RPk g F' ((l.map (·.1)).zip ps) vs
  | [], ps, [], _, r => by cases r; exact .nil
  | d :: l, ps, v :: vs, h, r => by
    cases r with
    | cons r t => exact .cons h.1.1.1 h.1.1.2 r (rpk_zip h.2 t)
  | [], _, _ :: _, h, _ => h.elim
  | _ :: _, _, [], h, _ => h.elim
theorem rpt_zip {ρ : Rho} {F F' : Hp} {k : Nat} : ∀ {l : List (P × D)} {ps : List P} {vs : List (List Key × V)}, RDt g ρ F k l vs → RPs g F' ps (vs.map (·.2)) → RPt g F' ((l.map (·.1)).zip ps) vs
  | [], ps, [], _, r => by cases r; exact .nil
  | d :: l, ps, v :: vs, h, r => by
    cases r with
    | cons r t => exact .cons h.1.1.1 h.1.1.2 r (rpt_zip h.2 t)
  | [], _, _ :: _, h, _ => h.elim
  | _ :: _, _, [], h, _ => h.elim
theorem rpf_zip {ρ : Rho} {F F' : Hp} {k : Nat} : ∀ {l : List (Nat × D)} {ps : List P} {vs : List (Str × V)}, RDf g ρ F k l vs → RPs g F' ps (vs.map (·.2)) → RPf g F' ((l.map (·.1)).zip ps) vs
  | [], ps, [], _, r => by cases r; exact .nil
  | d :: l, ps, (s, v) :: vs, h, r => by
    cases r with
    | cons r t =>
      have e : s = g.fN d.1 := h.1.1
      subst e
      exact .cons r (rpf_zip h.2 t)
  | [], _, _ :: _, h, _ => h.elim
  | _ :: _, _, [], h, _ => h.elim
theorem isSome_get {m : Mem} {n : Nat} (h : (m.get n).isSome = true) : ∃ o, m[n]? = some (some o) := by
  cases e : m.get n with
  | none => rw [e] at h; cases h
  | some o => exact ⟨o, get_some e⟩
/-- the object at the end of its freezing -/
theorem frz_end {ρ : Rho} {F F1 H : Hp} {m m1 : Mem} {n : Nat} {o : MO} {ho : HO} (x1 : Ext ρ F m H ρ F1 m1 H) (M1 : MRel g ρ F1 m1 H) (h1 : H (ρ n) = some ho) (hs : (m1.get n).isSome = true) :
    Ext ρ F m H ρ (upd F1 (ρ n) ho) (m1.kill n) H ∧ MRel g ρ (upd F1 (ρ n) ho) (m1.kill n) H ∧ Dn.Sub F1 (upd F1 (ρ n) ho) := by
  obtain ⟨o1, e1⟩ := isSome_get hs
  obtain ⟨x2, M2⟩ := step_frz M1 e1 h1
  exact ⟨x1.trans x2, M2, x2.Sub⟩
theorem frzN_rel {H : Hp} : ∀ (k : Nat) (d : D) (m : Mem) (x : P) (m' : Mem) (ρ : Rho) (F : Hp) (v : V), frzN k d m = some (x, m') → MRel g ρ F m H → RD g ρ F m.length d v → ∃ F', Ext ρ F m H ρ F' m' H ∧ MRel g ρ F' m' H ∧ RP g F' x v
  | 0, .p x, m, y, m', ρ, F, v, e, M, r => by
    unfold frzN at e
    cases e
    exact ⟨F, Ext.refl, M, r⟩
  | k + 1, .p x, m, y, m', ρ, F, v, e, M, r => by
    unfold frzN at e
    cases e
    exact ⟨F, Ext.refl, M, r⟩
  | 0, .ref n, m, y, m', ρ, F, v, e, M, r => by unfold frzN at e; cases e
  | k + 1, .ref n, m, y, m', ρ, F, v, e, M, r => by
    have ih := frzN_rel (H := H) k
    unfold frzN at e
    split at e
    · rename_i l q
      split at e
      · rename_i ps m1 e1
        split at e
        · rename_i hs
          cases e
          obtain ⟨ho, rfl, h1, h2⟩ := M.look q r
          have hz := rmo_line h2
          obtain ⟨vs, rfl, h3⟩ := rmo_lst h2
          obtain ⟨F1, x1, M1, r1⟩ := frzL_rel ih e1 M h3
          obtain ⟨x2, M2, sb⟩ := frz_end (o := .lst l) x1 M1 h1 hs
          exact ⟨_, x2, M2, .lst (by rw [r1.length, ← h3.length]; exact hz) upd_same (RPs.up sb r1)⟩
        · cases e
      · cases e
    · rename_i l q
      split at e
      · rename_i ps m1 e1
        split at e
        · rename_i hs
          cases e
          obtain ⟨ho, rfl, h1, h2⟩ := M.look q r
          have hz : l.length ≤ sizeLine := by cases ho <;> first | exact h2.1 | exact (show False from h2).elim
          obtain ⟨vs, rfl, h3⟩ := rmo_dct h2
          obtain ⟨F1, x1, M1, r1⟩ := frzL_rel ih e1 M (rdk_snd h3)
          obtain ⟨x2, M2, sb⟩ := frz_end (o := .dct l) x1 M1 h1 hs
          exact ⟨_, x2, M2, .dK (by rw [List.length_zip, List.length_map]; omega) (.inl upd_same) (RPk.up sb (rpk_zip h3 r1))⟩
        · cases e
      · cases e
    · rename_i l q
      split at e
      · rename_i ps m1 e1
        split at e
        · rename_i hs
          cases e
          obtain ⟨ho, rfl, h1, h2⟩ := M.look q r
          have hz : l.length ≤ sizeLine := by cases ho <;> first | exact h2.1 | exact (show False from h2).elim
          obtain ⟨vs, rfl, h3⟩ := rmo_dcT h2
          obtain ⟨F1, x1, M1, r1⟩ := frzL_rel ih e1 M (rdt_snd h3)
          obtain ⟨x2, M2, sb⟩ := frz_end (o := .dcT l) x1 M1 h1 hs
          exact ⟨_, x2, M2, .dT (by rw [List.length_zip, List.length_map]; omega) (.inl upd_same) (RPt.up sb (rpt_zip h3 r1))⟩
        · cases e
      · cases e
    · rename_i c l q
      split at e
      · rename_i ps m1 e1
        split at e
        · rename_i hs
          cases e
          obtain ⟨ho, rfl, h1, h2⟩ := M.look q r
          obtain ⟨dx, fs, rfl, hc, h3⟩ := rmo_ins h2
          obtain ⟨F1, x1, M1, r1⟩ := frzL_rel ih e1 M (rdf_snd h3)
          obtain ⟨x2, M2, sb⟩ := frz_end (o := .ins c l) x1 M1 h1 hs
          exact ⟨_, x2, M2, .ins hc upd_same (RPf.up sb (rpf_zip h3 r1))⟩
        · cases e
      · cases e
    · cases e
theorem frz_post {ρ : Rho} {F H : Hp} {m : Mem} {Q : VK} {E : XK} {d : D} {v : V} (M : MRel g ρ F m H) (r : RD g ρ F m.length d v) (h : PostD g ρ F m H (frzS d m) Q E) : Q v H := by
  unfold frzS at h
  split at h
  · rename_i x m' e
    obtain ⟨F', x1, M1, r1⟩ := frzN_rel 5 d m x m' ρ F v e M r
    exact h _ _ _ _ x1 M1 r1
  · exact h.elim
theorem e_frz {a : Expr} {ra : Sl → Mem → R D} (ha : PE X a (rdE g W ra)) : PE X a (rdE g W fun δ m => trimR m ((ra δ m).bind frzS)) :=
  ha.imp fun σ H Q ⟨δ, m, ρ, F, M, rs, P⟩ => rdX.bind (rb := fun x _ m => frzS x m) ⟨δ, m, ρ, F, M, rs, trim_post M P⟩ fun δ d m ρ F v H' M rs r P => frz_post M r P
/-! ### argument lists -/
theorem a_nil : PA X [] (rdA g W fun _ m => .ok [] m) := pa_nil.imp fun σ H Q ⟨δ, m, ρ, F, M, rs, P⟩ => P.val M trivial
def noStar : Expr → Bool
  | .Starred .. => false
  | _ => true
theorem star_cons {e : Expr} {es : List Expr} {env : Env} (h : noStar e = true) : starEach (e :: es) env = (false, eval e env) :: starEach es env := by cases e <;> first | rfl | cases h
theorem a_cons {e : Expr} {es : List Expr} {ra : Sl → Mem → R D} {rl : Sl → Mem → R (List D)} (he : PE X e (rdE g W ra)) (hl : PA X es (rdA g W rl)) (hn : noStar e = true) :
    PA X (e :: es) (rdA g W fun δ m => (ra δ m).bind fun x m => (rl δ m).bind fun xs m => .ok (x :: xs) m) := by
  refine (pa_cons he hl (star_cons hn)).imp fun σ H Q h => rdX.bind h fun δ d m ρ F v H' M rs r P => ?_
  exact ⟨δ, m, ρ, F, M, rs, P.bind fun l m2 vs H2 ρ2 F2 x2 M2 r2 P2 => P2.val M2 ⟨r.mono x2, r2⟩⟩
theorem seqD_any (c : Cok g T p lv X W cd) {ρ : Rho} {F H : Hp} {m : Mem} (M : MRel g ρ F m H) {d : D} {l : List D} {v : V} (e : seqD m d = some l) (r : RD g ρ F m.length d v) : ∃ a vs, v = .ref a ∧ RDs g ρ F m.length l vs ∧ (SqT X.K H a vs ∨ SqL X.K H a vs) := by
  obtain ⟨a, vs, _, e1, r1, q⟩ := seqD_ok M e r
  refine ⟨a, vs, e1, r1, ?_⟩
  rw [c.K]
  rcases q with ⟨q, _⟩ | ⟨q, _⟩
  · exact .inr (SqL.of q)
  · exact .inl q
theorem a_star (c : Cok g T p lv X W cd) {e : Expr} {es : List Expr} {ps : Pos} {ra : Sl → Mem → R D} {rl : Sl → Mem → R (List D)} (he : PE X e (rdE g W ra)) (hl : PA X es (rdA g W rl)) :
    PA X (.Starred e ps :: es) (rdA g W fun δ m => (ra δ m).bind fun x m => (oR (seqD m x) m).bind fun ys m => (rl δ m).bind fun xs m => .ok (ys ++ xs) m) := by
  refine (StX.pa_star he hl).imp fun σ H Q h => rdX.bind h fun δ d m ρ F v H' M rs r P => ?_
  unfold oR at P
  split at P
  · rename_i l e1
    obtain ⟨a, vs, rfl, r1, q⟩ := seqD_any c M e1 r
    refine ⟨a, vs, rfl, q, δ, m, ρ, F, M, rs, Post.bind P fun l2 m2 vs2 H2 ρ2 F2 x2 M2 r2 P2 => P2.val M2 ((r1.mono x2).append r2)⟩
  · exact P.elim
theorem e_tup {es : List Expr} {k : Nat} {pos : Pos} {pl : Bool} {rl : Sl → Mem → R (List D)} (hp : ∀ δ m xs m', rl δ m = .ok xs m' → pl = true → xs.length ≤ sizeLine) (hl : PA X es (rdA g W rl)) : PE X (.Tuple es k pos) (rdE g W fun δ m => (rl δ m).bind (lnS pl mkT)) :=
  (pe_tup hl).imp fun _ _ _ h => rdX.bindE h fun δ m0 d m e ρ F v H' M rs r P => by
    obtain ⟨l, P⟩ := lnS_post (hp δ m0 d m e) P
    exact mkT_post l P M r
theorem e_lst {es : List Expr} {mu : Bool} {pos : Pos} {pl : Bool} {rl : Sl → Mem → R (List D)} (hp : ∀ δ m xs m', rl δ m = .ok xs m' → pl = true → xs.length ≤ sizeLine) (hl : PA X es (rdA g W rl)) : PE X (.List es pos) (rdE g W fun δ m => (rl δ m).bind (lnS pl (mkL mu))) :=
  (pe_lst hl).imp fun _ _ _ h => rdX.bindE h fun δ m0 d m e ρ F v H' M rs r P => by
    obtain ⟨l, P⟩ := lnS_post (hp δ m0 d m e) P
    exact mkL_post l P M r
end
end Dn

/-! Dn, part I: calls. -/
namespace Dn
open PySem PySem.Spec PyProof.Rows L2
section
variable {g : Gn} {W : WX} {X : Cx} {T : Tb} {p : Pg} {lv : Nat} {cd : Cd}

theorem plain_any {es : List Expr} {pos : Pos} {env : Env} (h : es.all noStar = true) : (backTo pos (starEach es env)).any (·.1) = false := by
  induction es with
  | nil => rfl
  | cons e es ih =>
    rw [List.all_cons, Bool.and_eq_true] at h
    rw [star_cons h.1]
    show (false || (backTo pos (starEach es env)).any (·.1)) = false
    rw [ih h.2]
    rfl
theorem star_any' {es : List Expr} {pos : Pos} {env : Env} (h : es.all noStar = false) : (backTo pos (starEach es env)).any (·.1) = true := by
  induction es with
  | nil => cases h
  | cons e es ih =>
    rw [List.all_cons] at h
    cases q : noStar e with
    | true =>
      rw [q] at h
      rw [star_cons q]
      show (false || (backTo pos (starEach es env)).any (·.1)) = true
      rw [ih h]
      rfl
    | false => cases e <;> first | rfl | cases q
/-- the callee runs -/
theorem code_own (c : Cok g T p lv X W cd) {f : Nat} {a : Addr} {pins : List (Addr × Obj)} {σ : L2.St} {H : Hp} {s : Shared} {Q : VK} {us : List Value} {vs : List V}
    (Fn : Fnr g p lv X a f)
    (I : Inv X pins σ H s) (r : Vals vs us) {ds : List D} {m : Mem} {ρ : Rho} {F : Hp} (M : MRel g ρ F m H) (rd : RDs g ρ F m.length ds vs) (h : PostD g ρ F m H (callAt p lv f ds m) Q (WE W σ)) :
    codeAny (model X.prog X.w) X.A (.call (.ref a) ⟨us, []⟩) (wants (EP X pins σ Q) X.xe) s := by
  refine codeAny_mono (Fn X.A X.stack s H us vs Q (WE W σ) (c.room.mono (by omega)) I.env0 r ⟨ds, m, ρ, F, M, rd, h⟩) fun r s' hq => ?_
  cases r with
  | error e => exact c.tk e s' (XE.of_call I (fun _ _ _ h => h) hq)
  | ok fl =>
    cases fl with
    | ret u => exact I.after hq
    | next => exact False.elim hq
    | brk => exact False.elim hq
    | cont => exact False.elim hq
theorem run_own (c : Cok g T p lv X W cd) {f : Nat} {a : Addr} {pins : List (Addr × Obj)} {σ : L2.St} {H : Hp} {s : Shared} {Q : VK} {us : List Value} {vs : List V}
    (Fn : Fnr g p lv X a f)
    (I : Inv X pins σ H s) (r : Vals vs us) {ds : List D} {m : Mem} {ρ : Rho} {F : Hp} (M : MRel g ρ F m H) (rd : RDs g ρ F m.length ds vs) (h : PostD g ρ F m H (callAt p lv f ds m) Q (WE W σ)) :
    wpAny (model X.prog X.w) X.A (call (.ref a) us) (EP X pins σ Q) X.xe s := wpAny_call (code_own c Fn I r M rd h)
theorem e_call (c : Cok g T p lv X W cd) {f : Nat} {x : Str} {np pos : Pos} {e : Expr} {es : List Expr} {rl : Sl → Mem → R (List D)} (hf : T.fn f = some x) (hv : isGl cd x = true) (hd : nodb x = true) (hl : PA X (e :: es) (rdA g W rl)) (hn : noStar e = true) :
    PE X (.Call (.Name x np) (e :: es) [] pos) (rdE g W fun δ m => (rl δ m).bind (callAt p lv f)) := by
  obtain ⟨a, h1, h2, Fn⟩ := c.call f x hf
  refine ⟨fun pins s σ H Q I h => ?_⟩
  refine wpAny_Call_Name_kw (ld_glob I (c.glb hv) h1 ?_ (nodb_ok hd).1)
  have h' : rdA g W rl σ H fun vs H1 => ∃ ds m ρ F, MRel g ρ F m H1 ∧ RDs g ρ F m.length ds vs ∧ PostD g ρ F m H1 (callAt p lv f ds m) Q (WE W σ) :=
    rdX.bind h fun δ d m ρ F v H' M rs r P => ⟨d, m, ρ, F, M, r, P⟩
  have k := thn (hl.run pos pins s σ H _ I h') fun us s1 ⟨vs, H1, I1, r, ds, m, ρ, F, M, rd, q⟩ => (⟨I1.kIn, run_own c Fn I1 r M rd q⟩ : X.K.In s1.heap ∧ wpAny (model X.prog X.w) X.A (call (.ref a) us) (EP X pins σ Q) X.xe s1)
  cases q : es.all noStar with
  | true => exact PySem.W.callWith_K (h₀ := X.base) I.ok.mod.kin h2 k (star_cons hn) (plain_any q)
  | false => exact PySem.W.callWith_S2 (h₀ := X.base) (first := []) I.ok.mod.kin h2 k (star_cons hn) (star_any' q)
theorem e_call0 (c : Cok g T p lv X W cd) {f : Nat} {x : Str} {np pos : Pos} (hf : T.fn f = some x) (hv : isGl cd x = true) (hd : nodb x = true) :
    PE X (.Call (.Name x np) [] [] pos) (rdE g W fun δ m => (R.ok [] m).bind (callAt p lv f)) := by
  obtain ⟨a, h1, h2, Fn⟩ := c.call f x hf
  refine ⟨fun pins s σ H Q I ⟨δ, m, ρ, F, M, rs, P⟩ => ?_⟩
  refine wpAny_Call_Name_kw (ld_glob I (c.glb hv) h1 ?_ (nodb_ok hd).1)
  exact PySem.W.callWith_K0 I.kIn h2 (run_own c Fn (us := []) I .nil M (ds := []) trivial P)

/-! ### built-in functions -/
theorem bf_bl (c : Cok g T p lv X W cd) (f : BF) : X.mg (Str.ofString (bfN f)) = none := c.bl (bfN f) (by cases f <;> decide)
theorem bf_boot (f : BF) : bootBuiltins (Str.ofString (bfN f)) = some (bfV f) := by
  cases f with
  | len => exact bootS_len
  | int => exact boot_int
  | abs => exact boot_abs
  | list => exact boot_list
  | listM => exact boot_list
  | tuple => exact boot_tuple
  | all => exact boot_all
  | any => exact boot_any
  | sum => exact boot_sum
  | str => exact boot_str
  | repr => kernel_rfl
theorem bf_nn (f : BF) : Str.ofString (bfN f) ≠ "__name__" ∧ (Str.ofString (bfN f) == ("__debug__" : Str)) = false := by cases f <;> exact ⟨by decide, by decide⟩
theorem ansI_ok {ρ : Rho} {F H : Hp} {m : Mem} {d : D} {v : V} {Q : VK} {E : XK} (h : PostD g ρ F m H (ansI d m) Q E) (M : MRel g ρ F m H) (r : RD g ρ F m.length d v) : ∃ n : Int, v = .int n ∧ (0 ≤ n ∧ n < 2 ^ 63) ∧ Q (.int n) H := by
  unfold ansI at h
  split at h
  · split at h
    · rename_i z
      cases r; exact ⟨_, rfl, z, h.val M (RP.int _)⟩
    · exact h.elim
  · exact h.elim
theorem ansS_ok {ρ : Rho} {F H : Hp} {m : Mem} {d : D} {v : V} {Q : VK} {E : XK} (h : PostD g ρ F m H (ansS d m) Q E) (M : MRel g ρ F m H) (r : RD g ρ F m.length d v) : ∃ z, v = .str z ∧ Q (.str z) H := by
  unfold ansS at h
  split at h
  · cases r with | str z hz => exact ⟨_, rfl, h.val M (RP.str _ hz)⟩
  · exact h.elim
theorem bclO_ok (c : Cok g T p lv X W cd) (f : BF) : CallR X (bfV f) (rdN g (bclO (callAt p lv) p.gv f)) := by
  have base : ∀ f, CallR X (bfV f) (rdN g (bclS f)) := bcl_ok c.K c.calm
  rintro pins s σ H xs us Q I r ⟨ds, m, ρ, F, E, M, rs, h⟩
  have other : PostD g ρ F m H (bclS f ds m) Q E → wpAny (model X.prog X.w) X.A (call (bfV f) us) (EP X pins σ Q) X.xe s := fun h => base f pins s σ H xs us Q I r ⟨ds, m, ρ, F, E, M, rs, h⟩
  unfold bclO at h
  split at h
  · rename_i d
    match xs, rs with
    | [x], rs =>
      obtain ⟨u, rfl, ru⟩ := vals1 r
      split at h
      · rename_i cn ec
        split at h
        · rename_i fn ef
          obtain ⟨a, dx, fs, rfl, ha, hc⟩ := ins_at M ec rs.1
          cases (show u = Value.ref a from ru)
          obtain ⟨mA, O, _⟩ := ins_get I.hok ha
          obtain ⟨od, J, _⟩ := O.look
          obtain ⟨g1, g2, g3, Fn⟩ := c.om cn 0 fn ef
          obtain ⟨ms, hF⟩ := I.fr
          refine PySem.W.len_K hF I.ok.mod.kin J g2 g3 ?_
          refine wpAny_mono (run_calm c (c.room.in1.mono (by omega)) rfl Fn I (vs := [.ref a]) (.cons rfl .nil) M rs (Q := fun v H' => ∃ n : Int, v = .int n ∧ (0 ≤ n ∧ n < 2 ^ 63) ∧ Q (.int n) H') (h.bind fun r m' w H' ρ' F' x M' rr P => ansI_ok P M' rr)) (fun w s' z => ?_) fun _ _ x => x
          obtain ⟨w', H', I', rw', n, rfl, hn, q⟩ := z
          obtain ⟨t, e⟩ := (show ∃ t, w = Value.int n t from rw')
          subst e
          exact ⟨hn, .int n, H', I'.tok _, ⟨_, rfl⟩, q⟩
        · exact h.elim
      · exact other h
  · rename_i d
    match xs, rs with
    | [x], rs =>
      obtain ⟨u, rfl, ru⟩ := vals1 r
      split at h
      · rename_i cn ec
        split at h
        · rename_i fn ef
          obtain ⟨a, dx, fs, rfl, ha, hc⟩ := ins_at M ec rs.1
          cases (show u = Value.ref a from ru)
          obtain ⟨mA, O, _⟩ := ins_get I.hok ha
          obtain ⟨od, J, _⟩ := O.look
          obtain ⟨g1, g2, g3, Fn⟩ := c.om cn 1 fn ef
          obtain ⟨ms, hF⟩ := I.fr
          refine PySem.W.repr_K (by have := c.room.in1.units0; exact this) hF I.ok.mod.kin J g2 g3 ?_
          refine wpAny_mono (run_calm c (c.room.in1.mono (by omega)) rfl Fn I (vs := [.ref a]) (.cons rfl .nil) M rs (Q := fun v H' => ∃ z, v = .str z ∧ Q (.str z) H') (h.bind fun r m' w H' ρ' F' x M' rr P => ansS_ok P M' rr)) (fun w s' z => ?_) fun _ _ x => x
          obtain ⟨w', H', I', rw', n, rfl, q⟩ := z
          obtain ⟨t, e⟩ := (show ∃ t, w = Value.str n t from rw')
          subst e
          exact ⟨.str n, H', I', ⟨_, rfl⟩, q⟩
        · exact h.elim
      · exact other h
  · exact other h
theorem e_bcl (c : Cok g T p lv X W cd) {f : BF} {x : Str} {np pos : Pos} {e : Expr} {es : List Expr} {rl : Sl → Mem → R (List D)} (hf : x = Str.ofString (bfN f)) (hv : isGl cd x = true) (hl : PA X (e :: es) (rdA g W rl)) (hn : noStar e = true) (hs : es.all noStar = true) :
    PE X (.Call (.Name x np) (e :: es) [] pos) (rdE g W fun δ m => (rl δ m).bind (bclO (callAt p lv) p.gv f)) := by
  subst hf
  have k : ∀ {σ H Q}, rdE g W (fun δ m => (rl δ m).bind (bclO (callAt p lv) p.gv f)) σ H Q → tCB (rdN g (bclO (callAt p lv) p.gv f)) (rdA g W rl) σ H Q := fun h => rdX.bind h fun δ d m ρ F v H' M rs r P => ⟨d, m, ρ, F, _, M, r, P⟩
  have ok := bclO_ok c f
  have bt := bf_boot f
  unfold bfV at ok bt
  split at ok
  · rename_i z
    rw [if_pos z] at bt
    exact (pe_callTy ok (c.glb hv) (bf_bl c f) bt hl (bf_nn f).1 (bf_nn f).2 (star_cons hn) (plain_any hs)).imp fun _ _ _ h => k h
  · rename_i z
    rw [if_neg z] at bt
    exact (pe_callB ok (c.glb hv) (bf_bl c f) bt hl (bf_nn f).1 (bf_nn f).2 (star_cons hn) (plain_any hs)).imp fun _ _ _ h => k h

/-! ### methods of built-in types -/
def noSup : Expr → Bool
  | .Call (.Name _ _) [] [] _ => false
  | _ => true
theorem noSup_ok {o : Expr} {a : Str} {env : Env} {w : Sem Value} (h : noSup o = true) : attributeBase o a env w = w := by
  unfold attributeBase
  split
  · cases h
  · rfl
def bmT : BM → String
  | .append => "list" | .reverse => "list" | .clear => "list"
  | _ => "str"
def bmN : BM → String
  | .join => "join" | .append => "append" | .reverse => "reverse" | .clear => "clear" | .split => "split"
def bmI : BM → String
  | .join => "str.join" | .append => "list.append" | .reverse => "list.reverse" | .clear => "list.clear" | .split => "str.split"
theorem bm_attrs (f : BM) : PlainAttrs (bmT f) := by cases f <;> first | exact F.plainAttrs_list | exact F.plainAttrs_str
theorem bm_slot (f : BM) : Slot (bmT f) (Str.ofString (bmN f)) (bmI f) := by
  cases f with
  | join => exact F.slot_str_join
  | append => exact F.slot_list_append
  | reverse => exact F.slot_list_reverse
  | clear => exact F.slot_list_clear
  | split => exact F.slot_str_split
theorem bm_type (f : BM) : typeOf (.builtin (bmI f)) = pure (.type "method_descriptor") := by
  cases f with
  | join => exact F.type_str_join
  | append => exact F.type_list_append
  | reverse => exact F.type_list_reverse
  | clear => exact F.type_list_clear
  | split => exact F.type_str_split
theorem bm_ok (hK : X.K = g.K) (f : BM) : MtR X (bmI f) (rdM g (bmtS f)) := by
  cases f with
  | join => exact join_ok hK
  | append => exact append_ok
  | reverse => exact reverse_ok
  | clear => exact clear_ok
  | split => exact split_ok
theorem bm_ty (hK : X.K = g.K) {f : BM} {ρ : Rho} {F H : Hp} {m : Mem} {d : D} {v : V} (M : MRel g ρ F m H) (r : RD g ρ F m.length d v) (h : bmPre f d m = true) : L2.tyV X.K (bmT f) v H := by
  unfold bmPre at h
  split at h
  · cases r
    show bmT f = "str"
    cases f <;> first | rfl | cases h
  · rename_i n
    split at h
    · rename_i l e
      obtain ⟨ho, rfl, h1, h2⟩ := M.look e r
      obtain ⟨vs, rfl, h3⟩ := rmo_lst h2
      refine .inl ⟨?_, vs, SqL.of h1⟩
      cases f <;> first | rfl | cases h
    · cases h
  · cases h
theorem few_ok {es : List Expr} {pos : Pos} {env : Env} (h : es.all noStar = true) (hl : es.length < 30) : ((backTo pos (starEach es env)).all (fun x => !x.1) && (backToKw pos (keywordEach [] env)).all (fun x => x.1.isSome) && decide (es.length + ([] : List Keyword).length + (if ([] : List Keyword).isEmpty then 0 else 1) < 30)) = true := by
  have e1 : (backTo pos (starEach es env)).all (fun x => !x.1) = true := by
    have := plain_any (pos := pos) (env := env) h
    rw [List.all_eq_not_any_not]
    simp only [Bool.not_not]
    rw [this]
    rfl
  rw [e1, Bool.true_and, Bool.and_eq_true]
  exact ⟨rfl, decide_eq_true (by simpa using hl)⟩
theorem e_bmt (c : Cok g T p lv X W cd) {f : BM} {a e : Expr} {es : List Expr} {x : Str} {ap pos : Pos} {ra : Sl → Mem → R D} {rl : Sl → Mem → R (List D)} (hx : x = Str.ofString (bmN f)) (ha : PE X a (rdE g W ra)) (hl : PA X (e :: es) (rdA g W rl)) (hs : (e :: es).all noStar = true) (hlen : (e :: es).length < 30) (hb : noSup a = true) (hp : (ap.endLine == pos.line) = true) :
    PE X (.Call (.Attribute a x ap) (e :: es) [] pos) (rdE g W fun δ m => (ra δ m).bind fun x m => if bmPre f x m = true then (rl δ m).bind (bmtS f x) else .no) := by
  subst hx
  have hs' : noStar e = true ∧ es.all noStar = true := by rw [List.all_cons, Bool.and_eq_true] at hs; exact hs
  refine (pe_bm (bm_attrs f) (bm_slot f) (bm_type f) (bm_ok c.K f) ha hl (noSup_ok hb) (few_ok hs hlen) hp (star_cons hs'.1) (plain_any hs'.2)).imp fun σ H Q h => rdX.bind h fun δ d m ρ F v H' M rs r P => ?_
  split at P
  · rename_i hpre
    refine ⟨bm_ty c.K M r hpre, δ, m, ρ, F, M, rs, P.bind fun ds m2 vs H2 ρ2 F2 x2 M2 r2 P2 => ⟨d, ds, m2, ρ2, F2, _, M2, r.mono x2, r2, P2⟩⟩
  · exact P.elim

theorem e_bmt0 (c : Cok g T p lv X W cd) {f : BM} {a : Expr} {x : Str} {ap pos : Pos} {ra : Sl → Mem → R D} (hx : x = Str.ofString (bmN f)) (ha : PE X a (rdE g W ra)) (hb : noSup a = true) (hp : (ap.endLine == pos.line) = true) :
    PE X (.Call (.Attribute a x ap) [] [] pos) (rdE g W fun δ m => (ra δ m).bind fun x m => if bmPre f x m = true then (R.ok [] m).bind (bmtS f x) else .no) := by
  subst hx
  refine (pe_bm0 (bm_attrs f) (bm_slot f) (bm_type f) (bm_ok c.K f) ha (noSup_ok hb) hp).imp fun σ H Q h => rdX.bind h fun δ d m ρ F v H' M rs r P => ?_
  split at P
  · rename_i hpre
    exact ⟨bm_ty c.K M r hpre, d, [], m, ρ, F, _, M, r, trivial, P⟩
  · exact P.elim
/-! ### isinstance -/
def tyN (T : Tb) : Ty → Option Str
  | .own c => T.cn c
  | t => some (Str.ofString (tyS t))
theorem e_ty (c : Cok g T p lv X W cd) {t : Ty} {x : Str} {pos : Pos} (h : tyN T t = some x) (hv : isGl cd x = true) (hd : nodb x = true) : PE X (.Name x pos) (tC (tyV g t)) ∧ tyOk g t = true := by
  cases t with
  | own n =>
    obtain ⟨h1, h2⟩ := c.cn n x h
    exact ⟨pe_glob (c.glb hv) h1 rfl (nodb_ok hd).1, h2⟩
  | int => cases h; exact ⟨pe_bltn (c.glb hv) (c.bl "int" (by decide)) boot_int rfl (by decide) (nodb_ok hd).1, rfl⟩
  | bool => cases h; exact ⟨pe_bltn (c.glb hv) (c.bl "bool" (by decide)) boot_bool rfl (by decide) (nodb_ok hd).1, rfl⟩
  | str => cases h; exact ⟨pe_bltn (c.glb hv) (c.bl "str" (by decide)) boot_str rfl (by decide) (nodb_ok hd).1, rfl⟩
  | list => cases h; exact ⟨pe_bltn (c.glb hv) (c.bl "list" (by decide)) boot_list rfl (by decide) (nodb_ok hd).1, rfl⟩
  | tuple => cases h; exact ⟨pe_bltn (c.glb hv) (c.bl "tuple" (by decide)) boot_tuple rfl (by decide) (nodb_ok hd).1, rfl⟩
  | dict => cases h; exact ⟨pe_bltn (c.glb hv) (c.bl "dict" (by decide)) boot_dict rfl (by decide) (nodb_ok hd).1, rfl⟩
/-- the names of classes -/
def tysOk (T : Tb) (cd : Cd) : List Ty → List Expr → Bool
  | [], [] => true
  | t :: l, .Name x _ :: es => (match tyN T t with | some y => decide (x = y) | none => false) && isGl cd x && nodb x && tysOk T cd l es
  | _, _ => false
def tCs : List V → TA
  | [] => tNil
  | v :: vs => tCons (tC v) (tCs vs)
theorem tCs_q {σ : L2.St} {H : Hp} {Q : List V → Hp → Prop} : ∀ {vs : List V}, Q vs H → tCs vs σ H Q
  | [], h => h
  | v :: vs, h => tCs_q (vs := vs) (Q := fun xs H2 => Q (v :: xs) H2) h
theorem a_tys (c : Cok g T p lv X W cd) : ∀ {l : List Ty} {es : List Expr}, tysOk T cd l es = true → PA X es (tCs (l.map (tyV g))) ∧ l.all (tyOk g) = true
  | [], [], _ => ⟨pa_nil, rfl⟩
  | t :: l, .Name x pos :: es, h => by
    unfold tysOk at h
    rw [Bool.and_eq_true, Bool.and_eq_true, Bool.and_eq_true] at h
    obtain ⟨⟨⟨h1, h2⟩, h3⟩, h4⟩ := h
    split at h1
    · rename_i y ey
      have := of_decide_eq_true h1
      subst this
      obtain ⟨e1, e2⟩ := e_ty c (pos := pos) ey h2 h3
      obtain ⟨e3, e4⟩ := a_tys c h4
      exact ⟨pa_cons e1 e3 rfl, by rw [List.all_cons, e2, e4]; rfl⟩
    · cases h1
theorem oB_kind {l : List Ty} {d : D} {m : Mem} {b : Bool} (hl : l ≠ []) (h : isTys l d m = some b) : ∃ k, kindS d m = some k := by
  cases l with
  | nil => exact absurd rfl hl
  | cons t l =>
    cases e : kindS d m with
    | some k => exact ⟨k, rfl⟩
    | none =>
      unfold isTys isTy at h
      rw [e] at h
      cases h
theorem e_isi1 (c : Cok g T p lv X W cd) {a e : Expr} {t : Ty} {np pos : Pos} {ra : Sl → Mem → R D} (hv : isGl cd "isinstance" = true) (ha : PE X a (rdE g W ra)) (hn : noStar a = true) (ht : tysOk T cd [t] [e] = true) :
    PE X (.Call (.Name "isinstance" np) [a, e] [] pos) (rdE g W fun δ m => (ra δ m).bind fun x m => oB (isTys [t] x m) m) := by
  obtain ⟨h1, h2⟩ := a_tys c ht
  have hne : noStar e = true := by cases e <;> first | rfl | cases ht
  refine (pe_callB call_isi (c.glb hv) (c.bl "isinstance" (by decide)) boot_isinstance (pa_cons ha h1 (star_cons hn)) (by decide) (by decide) (star_cons hn) (plain_any (by rw [List.all_cons, hne]; rfl))).imp fun σ H Q h => rdX.bind h fun δ d m ρ F v H' M rs r P => ?_
  refine tCs_q ?_
  obtain ⟨b, eb, q⟩ := oB_ok P M
  obtain ⟨k, ek⟩ := oB_kind (by simp) eb
  obtain ⟨k1, k2, k3⟩ := kind_ok c.kf M r ek
  have h2' : tyOk g t = true := by simpa using h2
  have hk := kit_ok c.kf h2' k2 k3
  have : b = isK t k := by
    unfold isTys at eb
    split at eb
    · rename_i e1
      obtain ⟨k', e2, e3⟩ := isTy_kind e1
      rw [ek] at e2; cases e2; cases eb; exact e3
    · rename_i e1
      obtain ⟨k', e2, e3⟩ := isTy_kind e1
      rw [ek] at e2; cases e2; cases eb; exact e3
    · cases eb
  refine ⟨v, tyV g t, kindU g k, tyU g t, b, rfl, ?_, by rw [c.K]; exact k1, by rw [c.K, this]; exact hk, q⟩
  cases t <;> first | exact .ty _ | exact .own _
theorem e_isiT (c : Cok g T p lv X W cd) {a : Expr} {es : List Expr} {l : List Ty} {np pos tp : Pos} {kk : Nat} {ra : Sl → Mem → R D} (hv : isGl cd "isinstance" = true) (ha : PE X a (rdE g W ra)) (hn : noStar a = true) (hl : l ≠ []) (hz : l.length ≤ 100) (ht : tysOk T cd l es = true) :
    PE X (.Call (.Name "isinstance" np) [a, .Tuple es kk tp] [] pos) (rdE g W fun δ m => (ra δ m).bind fun x m => oB (isTys l x m) m) := by
  obtain ⟨h1, h2⟩ := a_tys c ht
  refine (pe_callB call_isiT (c.glb hv) (c.bl "isinstance" (by decide)) boot_isinstance (pa_cons ha (pa_cons (pe_tup h1) pa_nil rfl) (star_cons hn)) (by decide) (by decide) (star_cons hn) rfl).imp fun σ H Q h => rdX.bind h fun δ d m ρ F v H' M rs r P => ?_
  refine tCs_q ⟨by rw [List.length_map]; exact Nat.le_trans hz (by decide), fun a' ha' => ?_⟩
  obtain ⟨x1, M1⟩ := step_pure (ho := .tup (l.map (tyV g))) M ha'
  obtain ⟨b, eb, q⟩ := oB_ok (Post.on x1 P) M1
  obtain ⟨k, ek⟩ := oB_kind hl eb
  obtain ⟨k1, k2, k3⟩ := kind_ok c.kf M1 (r.mono x1) ek
  exact ⟨v, a', l.map (tyV g), kindU g k, l.map (tyU g), b, rfl, upd_same, tys_cls l, by rw [c.K]; exact k1, by rw [c.K]; exact isTys_ok c.kf h2 M1 (r.mono x1) eb ek, q⟩
end
end Dn

/-! Dn, part J: targets, what is walked, comprehensions. -/
namespace Dn
open PySem PySem.Spec PyProof.Rows L2

/-! ### targets -/
mutual
def T.ixs : T → List Nat
  | .nm i => [i]
  | .tp l => TL.ixs l
def TL.ixs : TL → List Nat
  | .nil => []
  | .cons t l => T.ixs t ++ TL.ixs l
end
/-- σ' is σ but at l -/
def Same (l : List Nat) (σ σ' : L2.St) : Prop := σ'.length = σ.length ∧ ∀ i, i ∉ l → σ'[i]? = σ[i]?
theorem Same.refl (l : List Nat) (σ : L2.St) : Same l σ σ := ⟨rfl, fun _ _ => rfl⟩
theorem Same.app {l r : List Nat} {σ σ1 σ2 : L2.St} (h : Same l σ σ1) (k : Same r σ1 σ2) : Same (l ++ r) σ σ2 := ⟨k.1.trans h.1, fun i hi => by
  rw [List.mem_append, not_or] at hi
  exact (k.2 i hi.2).trans (h.2 i hi.1)⟩
def rdG (g : Gn) (t : T) : TG := fun v σ H Q => ∃ d δ m ρ F δ', MRel g ρ F m H ∧ RD g ρ F m.length d v ∧ RSl g ρ F m.length δ σ ∧ asgT t d m δ = some δ' ∧ ∀ σ', RSl g ρ F m.length δ' σ' → Same t.ixs σ σ' → Q σ' H
def rdGs (g : Gn) (t : TL) : TGs := fun vs σ H Q => ∃ ds δ m ρ F δ', MRel g ρ F m H ∧ RDs g ρ F m.length ds vs ∧ RSl g ρ F m.length δ σ ∧ asgTL t ds m δ = some δ' ∧ ∀ σ', RSl g ρ F m.length δ' σ' → Same t.ixs σ σ' → Q σ' H
mutual
def chkT (cd : Cd) : T → Expr → Bool
  | .nm i, e => match e with
    | .Name x _ => decide (cd.N[i]? = some x) && isLoc cd x
    | _ => false
  | .tp l, e => match e with
    | .Tuple es _ _ => chkTL cd l es
    | _ => false
def chkTL (cd : Cd) : TL → List Expr → Bool
  | .nil, l => match l with
    | [] => true
    | _ => false
  | .cons t l, es => match es with
    | e :: es => chkT cd t e && chkTL cd l es
    | [] => false
end
section
variable {g : Gn} {W : WX} {X : Cx} {T' : Tb} {p : Pg} {lv : Nat} {cd : Cd}
/-- no star among the targets -/
theorem tl_noStar : ∀ {l : TL} {es : List Expr}, chkTL cd l es = true → es.all (fun e => match e with | .Name .. => true | .Tuple .. => true | _ => false) = true
  | .nil, [], _ => rfl
  | .nil, _ :: _, h => by cases h
  | .cons t l, [], h => by cases h
  | .cons t l, e :: es, h => by
    unfold chkTL at h
    rw [Bool.and_eq_true] at h
    rw [List.all_cons, tl_noStar h.2, Bool.and_true]
    cases t <;> (unfold chkT at h; cases e <;> first | rfl | (exfalso; exact Bool.false_ne_true h.1))
theorem as_cons {e : Expr} {es : List Expr} {env : Env} (h : (match e with | .Name .. => true | .Tuple .. => true | _ => false) = true) : (assignEach (e :: es) env) = (false, assign e env) :: assignEach es env := by cases e <;> first | rfl | cases h
theorem as_len {env : Env} : ∀ {es : List Expr}, es.all (fun e => match e with | .Name .. => true | .Tuple .. => true | _ => false) = true → (assignEach es env).length = es.length ∧ (assignEach es env).findIdx? (·.1) = none
  | [], _ => ⟨rfl, rfl⟩
  | e :: es, h => by
    rw [List.all_cons, Bool.and_eq_true] at h
    rw [as_cons h.1]
    obtain ⟨h1, h2⟩ := as_len (env := env) h.2
    refine ⟨by rw [List.length_cons, List.length_cons, h1], ?_⟩
    rw [List.findIdx?_cons, h2]
    rfl
theorem tl_len {m : Mem} : ∀ {l : TL} {es : List Expr} {ds : List D} {δ δ' : Sl}, chkTL cd l es = true → asgTL l ds m δ = some δ' → ds.length = es.length
  | .nil, [], [], _, _, _, _ => rfl
  | .nil, [], _ :: _, _, _, _, h => by cases h
  | .nil, _ :: _, _, _, _, h, _ => by cases h
  | .cons t l, [], _, _, _, h, _ => by cases h
  | .cons t l, _ :: _, [], _, _, _, h => by cases h
  | .cons t l, e :: es, d :: ds, δ, δ', h, k => by
    unfold chkTL at h
    rw [Bool.and_eq_true] at h
    unfold asgTL at k
    split at k
    · rw [List.length_cons, List.length_cons, tl_len h.2 k]
    · cases k
mutual
theorem g_ok (c : Cok g T' p lv X W cd) : ∀ {t : T} {e : Expr}, chkT cd t e = true → PG X e (rdG g t)
  | .nm i, e, h => by
    unfold chkT at h
    split at h
    · rename_i x pos
      rw [Bool.and_eq_true] at h
      obtain ⟨h1, h2⟩ := h
      have h1 := of_decide_eq_true h1
      obtain ⟨l1, l2⟩ := c.loc h2
      refine (pg_name c.nd (by rw [c.N]; exact h1) l1 l2).imp fun v σ H Q ⟨d, δ, m, ρ, F, δ', M, r, rs, e1, k⟩ => ?_
      cases e1
      exact k _ (rs.set i r) ⟨by simp, fun j hj => List.getElem?_set_ne (fun z => hj (by simp [T.ixs, z]))⟩
    · cases h
  | .tp l, e, h => by
    unfold chkT at h
    split at h
    · rename_i es kk pos
      have ns := tl_noStar h
      have gs := gs_ok c h
      obtain ⟨a1, a2⟩ := as_len (env := X.env) ns
      refine ⟨fun pins s σ H v u Q I rv ⟨d, δ, m, ρ, F, δ', M, r, rs, e1, k⟩ => ?_⟩
      unfold asgT at e1
      split at e1
      · rename_i ds es'
        obtain ⟨a, vs, rfl, r1, q⟩ := seqD_any c M es' r
        have hl : vs.length = es.length := by rw [← r1.length]; exact tl_len h e1
        rcases q with q | q
        · exact (pg_tup c.calm gs a1 a2).run pins s σ H _ u Q I rv ⟨a, vs, rfl, q, hl, ds, δ, m, ρ, F, δ', M, r1, rs, e1, k⟩
        · exact (pg_unl c.calm gs a1 a2).run pins s σ H _ u Q I rv ⟨a, vs, rfl, q, hl, ds, δ, m, ρ, F, δ', M, r1, rs, e1, k⟩
      · cases e1
    · cases h
theorem gs_ok (c : Cok g T' p lv X W cd) : ∀ {l : TL} {es : List Expr}, chkTL cd l es = true → PGs X es (rdGs g l)
  | .nil, [], _ => pgs_nil.imp fun vs σ H Q ⟨ds, δ, m, ρ, F, δ', M, r, rs, e1, k⟩ => by
    cases ds with
    | nil =>
      cases vs with
      | nil => cases e1; exact ⟨rfl, k _ rs (Same.refl _ _)⟩
      | cons _ _ => exact r.elim
    | cons _ _ => cases e1
  | .nil, _ :: _, h => by cases h
  | .cons t l, [], h => by cases h
  | .cons t l, e :: es, h => by
    have ns := tl_noStar h
    rw [List.all_cons, Bool.and_eq_true] at ns
    unfold chkTL at h
    rw [Bool.and_eq_true] at h
    refine (pgs_cons (g_ok c h.1) (gs_ok c h.2) (by rw [as_cons ns.1]; rfl)).imp fun vs σ H Q ⟨ds, δ, m, ρ, F, δ', M, r, rs, e1, k⟩ => ?_
    cases ds with
    | nil => cases e1
    | cons d ds =>
      cases vs with
      | nil => exact r.elim
      | cons v vs =>
        unfold asgTL at e1
        split at e1
        · rename_i δ1 e2
          refine ⟨v, vs, rfl, d, δ, m, ρ, F, δ1, M, r.1, rs, e2, fun σ1 rs1 s1 => ⟨ds, δ1, m, ρ, F, δ', M, r.2, rs1, e1, fun σ2 rs2 s2 => k σ2 rs2 (s1.app s2)⟩⟩
        · cases e1
end

/-! ### what is walked -/
/-- the heap has gone on -/
structure On (ρ0 : Rho) (F0 : Hp) (k : Nat) (ρ : Rho) (F : Hp) (m : Mem) : Prop where
  sub : ∀ a o, F0 a = some o → F a = some o
  len : k ≤ m.length
  agr : ∀ n, n < k → ρ n = ρ0 n
theorem On.refl {ρ : Rho} {F : Hp} {m : Mem} : On ρ F m.length ρ F m := ⟨fun _ _ h => h, Nat.le_refl _, fun _ _ => rfl⟩
theorem On.ext {ρ0 ρ ρ1 : Rho} {F0 F F1 : Hp} {k : Nat} {m m1 : Mem} {H H1 : Hp} (h : On ρ0 F0 k ρ F m) (x : Ext ρ F m H ρ1 F1 m1 H1) : On ρ0 F0 k ρ1 F1 m1 :=
  ⟨fun a o e => x.sub a o (h.sub a o e), Nat.le_trans h.len x.len, fun n hn => (x.agr n (Nat.lt_of_lt_of_le hn h.len)).trans (h.agr n hn)⟩
def RIt (g : Gn) : Rho → Hp → Nat → Its → It → Prop := fun ρ0 F0 k t J => t.l.length ≤ sizeLine ∧ ∀ ρ F m H, On ρ0 F0 k ρ F m → MRel g ρ F m H → t.held m → ∀ i,
  (∀ d, t.l[i]? = some d → J.go i H ∧ ∀ x H', J.yld i H x H' → ∃ F', Ext ρ F m H ρ F' m H' ∧ MRel g ρ F' m H' ∧ RD g ρ F' m.length d x) ∧ (t.l[i]? = none → J.stop i H)
abbrev rdIt (g : Gn) (W : WX) (r : Sl → Mem → R Its) : TI := rdX g (RIt g) W r
/-- items that stand as they are -/
theorem it_list (hK : X.K = g.K) {ρ0 : Rho} {F0 : Hp} {k : Nat} {t : Its} {a : Addr} (hz : t.l.length ≤ sizeLine) (h : ∀ ρ F m H, On ρ0 F0 k ρ F m → MRel g ρ F m H → t.held m → ∃ vs, H a = some (.lst vs) ∧ RDs g ρ F m.length t.l vs) : RIt g ρ0 F0 k t (Itl X.K a) := by
  refine ⟨hz, ?_⟩
  intro ρ F m H on M hd i
  obtain ⟨vs, h1, r⟩ := h ρ F m H on M hd
  refine ⟨fun d e => ?_, fun e => ⟨vs, SqL.of h1, ?_⟩⟩
  · obtain ⟨v, e1, r1⟩ := r.get e
    refine ⟨⟨vs, v, SqL.of h1, e1⟩, fun x H' y => ?_⟩
    obtain ⟨rfl, y⟩ := y
    have := y vs (SqL.of h1)
    rw [e1] at this
    cases this
    exact ⟨F, Ext.refl, M, r1⟩
  · rw [← r.length]; exact List.getElem?_eq_none_iff.mp e
theorem it_tup (hK : X.K = g.K) {ρ0 : Rho} {F0 : Hp} {k : Nat} {t : Its} {a : Addr} (hz : t.l.length ≤ sizeLine) (h : ∀ ρ F m H, On ρ0 F0 k ρ F m → MRel g ρ F m H → ∃ vs, SqT g.K H a vs ∧ RDs g ρ F m.length t.l vs) : RIt g ρ0 F0 k t (Itt X.K a) := by
  refine ⟨hz, ?_⟩
  intro ρ F m H on M hd i
  obtain ⟨vs, h1, r⟩ := h ρ F m H on M
  rw [← hK] at h1
  refine ⟨fun d e => ?_, fun e => ⟨vs, h1, ?_⟩⟩
  · obtain ⟨v, e1, r1⟩ := r.get e
    refine ⟨⟨vs, v, h1, e1⟩, fun x H' y => ?_⟩
    obtain ⟨rfl, y⟩ := y
    have := y vs h1
    rw [e1] at this
    cases this
    exact ⟨F, Ext.refl, M, r1⟩
  · rw [← r.length]; exact List.getElem?_eq_none_iff.mp e
theorem MRel.subF {ρ : Rho} {F F0 H : Hp} {m : Mem} (h : ∀ a o, F0 a = some o → F a = some o) (M : MRel g ρ F m H) : Sub F0 H := fun a o e => M.sub a o (h a o e)
theorem RPs.dsOn {ρ ρ0 : Rho} {F F0 : Hp} {k : Nat} {m : Mem} {l : List P} {vs : List V} (on : On ρ0 F0 k ρ F m) (r : RPs g F0 l vs) : RDs g ρ F m.length (l.map D.p) vs := RPs.ds (RPs.up (Sub.of on.sub) r)
/-- e, a sequence -/
theorem i_seq (c : Cok g T' p lv X W cd) {tg e : Expr} {ra : Sl → Mem → R D} (he : PE X e (rdE g W ra)) : PI X tg e (rdIt g W fun δ m => (ra δ m).bind fun x m => oR (itSeq x m) m) := by
  refine ⟨fun pins s σ H R' I ⟨δ, m, ρ, F, M, rs, P⟩ => ?_⟩
  dsimp only at P
  cases q : ra δ m with
  | no => rw [q] at P; exact P.elim
  | ex x m' =>
    rw [q] at P
    exact (pi_list he).run pins s σ H R' I ⟨δ, m, ρ, F, M, rs, by rw [q]; exact P⟩
  | ok d m' =>
    rw [q] at P
    have P : Post g (RIt g) ρ F m H (oR (itSeq d m') m') R' (WE W σ) := P
    have key : ∀ {Q : VK}, (∀ v H' ρ' F', Ext ρ F m H ρ' F' m' H' → MRel g ρ' F' m' H' → RD g ρ' F' m'.length d v → Q v H') → rdE g W ra σ H Q := fun k => ⟨δ, m, ρ, F, M, rs, by rw [q]; exact k⟩
    cases d with
    | p y =>
      cases y with
      | lst l =>
        refine (pi_list he).run pins s σ H R' I (key fun v H' ρ' F' x M' r => ?_)
        cases r with
        | lst hz h1 t =>
          rename_i a vs
          refine ⟨a, rfl, ⟨vs, SqL.of (M'.sub.lst h1)⟩, P _ _ _ _ x M' (it_list c.K (by rw [List.length_map]; exact hz) fun ρ2 F2 m2 H2 on M2 _ => ⟨vs, (M2.subF on.sub).lst h1, t.dsOn on⟩)⟩
      | tup l =>
        refine (pi_tup he).run pins s σ H R' I (key fun v H' ρ' F' x M' r => ?_)
        cases r with
        | tup hz h1 t =>
          rename_i a vs
          refine ⟨a, rfl, ⟨vs, SqT.of (M'.sub.tup h1)⟩, P _ _ _ _ x M' (it_tup c.K (by rw [List.length_map]; exact hz) fun ρ2 F2 m2 H2 on M2 => ⟨vs, SqT.of ((M2.subF on.sub).tup h1), t.dsOn on⟩)⟩
      | ktp l =>
        refine (pi_tup he).run pins s σ H R' I (key fun v H' ρ' F' x M' r => ?_)
        cases r with
        | ktp hz h1 t =>
          rename_i a vs
          refine ⟨a, rfl, ⟨vs, by rw [c.K]; exact h1 _⟩, P _ _ _ _ x M' (it_tup c.K (by rw [List.length_map]; exact hz) fun ρ2 F2 m2 H2 on M2 => ⟨vs, h1 _, t.dsOn on⟩)⟩
      | str z =>
        refine (pi_str he).run pins s σ H R' I (key fun v H' ρ' F' x M' r => ?_)
        cases r with | str _ hz =>
        refine ⟨z, rfl, P _ _ _ _ x M' ⟨by rw [List.length_map]; exact hz, fun ρ2 F2 m2 H2 on M2 _ i => ?_⟩⟩
        have ez : z.cps.toList[i]? = z.cps[i]? := Array.getElem?_toList ..
        refine ⟨fun d e => ?_, fun e => ?_⟩
        · have e : (z.cps.toList.map fun c => D.p (.str ⟨#[c]⟩))[i]? = some d := e
          rw [List.getElem?_map, ez] at e
          obtain ⟨cc, e1, e2⟩ := Option.map_eq_some_iff.mp e
          refine ⟨(Array.getElem?_eq_some_iff.mp e1).1, fun x' H3 y => ?_⟩
          obtain ⟨rfl, c', e3, rfl⟩ := y
          rw [e1] at e3
          cases e3
          subst e2
          exact ⟨F2, Ext.refl, M2, RP.str _ (by simp [Str.length, PySem.sizeLine])⟩
        · have e : (z.cps.toList.map fun c => D.p (.str ⟨#[c]⟩))[i]? = none := e
          rw [List.getElem?_map, ez] at e
          exact Array.getElem?_eq_none_iff.mp (Option.map_eq_none_iff.mp e)
      | _ => exact P.elim
    | ref n =>
      have P : Post g (RIt g) ρ F m H (oR (match m'.get n with | some (.lst l) => some ⟨l, some (n, l)⟩ | _ => none) m') R' (WE W σ) := P
      cases q2 : m'.get n with
      | none => rw [q2] at P; exact P.elim
      | some o =>
        rw [q2] at P
        cases o with
        | lst l =>
          refine (pi_list he).run pins s σ H R' I (key fun v H' ρ' F' x M' r => ?_)
          obtain ⟨ho, rfl, h1, h2⟩ := M'.look q2 r
          have hz := rmo_line h2
          obtain ⟨vs, rfl, h3⟩ := rmo_lst h2
          refine ⟨_, rfl, ⟨vs, SqL.of h1⟩, P _ _ _ _ x M' (it_list c.K hz fun ρ2 F2 m2 H2 on M2 hd => ?_)⟩
          obtain ⟨ho, _, h4, h5⟩ := M2.look (v := .ref (ρ2 n)) hd ⟨Nat.lt_of_lt_of_le r.1 on.len, rfl⟩
          obtain ⟨us, rfl, h6⟩ := rmo_lst h5
          exact ⟨us, by rw [← on.agr n r.1]; exact h4, h6⟩
        | _ => exact P.elim
theorem it_rng {ρ0 : Rho} {F0 : Hp} {k : Nat} {lo : Int} {n : Nat} (hn : n ≤ sizeLine) : RIt g ρ0 F0 k ⟨(List.range n).map fun (j : Nat) => .p (.int (lo + (j : Int))), none⟩ (Itr lo n) := by
  refine ⟨by simpa using hn, ?_⟩
  intro ρ F m H on M _ i
  refine ⟨fun d e => ?_, fun e => ?_⟩
  · have e : ((List.range n).map fun (j : Nat) => D.p (.int (lo + (j : Int))))[i]? = some d := e
    rw [List.getElem?_map] at e
    obtain ⟨j, e1, e2⟩ := Option.map_eq_some_iff.mp e
    have hi : i < n := by have := (List.getElem?_eq_some_iff.mp e1).1; simpa using this
    rw [List.getElem?_range hi] at e1
    cases e1
    refine ⟨hi, fun x H' y => ?_⟩
    obtain ⟨rfl, rfl⟩ := y
    subst e2
    exact ⟨F, Ext.refl, M, RP.int _⟩
  · have e : ((List.range n).map fun (j : Nat) => D.p (.int (lo + (j : Int))))[i]? = none := e
    rw [List.getElem?_map] at e
    have := List.getElem?_eq_none_iff.mp (Option.map_eq_none_iff.mp e)
    show n ≤ i
    simpa using this
theorem i_rng (c : Cok g T' p lv X W cd) {tg e : Expr} {np pos : Pos} {ra : Sl → Mem → R D} (hv : isGl cd "range" = true) (he : PE X e (rdE g W ra)) (hn : noStar e = true) : PI X tg (.Call (.Name "range" np) [e] [] pos) (rdIt g W fun δ m => (ra δ m).bind fun x m => oR (itRng x) m) := by
  refine (pi_range1 (c.glb hv) (c.bl "range" (by decide)) (pa_cons he pa_nil (star_cons hn)) (star_cons hn)).imp fun σ H Q h => rdX.bind h fun δ d m ρ F v H' M rs r P => ?_
  unfold itRng at P
  split at P
  · rename_i j
    cases r
    split at P
    · rename_i hj
      have hz := hj.2
      rw [PySem.sizeLine_eq] at hz
      refine ⟨j, rfl, hj.1, by omega, Post.val P M ?_⟩
      have := it_rng (g := g) (ρ0 := ρ) (F0 := F) (k := m.length) (lo := 0) (n := j.toNat) (by have := hj.2; omega)
      simpa using this
    · exact P.elim
  · exact P.elim
theorem i_rng2 (c : Cok g T' p lv X W cd) {tg e e2 : Expr} {np pos : Pos} {ra rb : Sl → Mem → R D} (hv : isGl cd "range" = true) (he : PE X e (rdE g W ra)) (hn : noStar e = true) (he2 : PE X e2 (rdE g W rb)) (hn2 : noStar e2 = true) :
    PI X tg (.Call (.Name "range" np) [e, e2] [] pos) (rdIt g W fun δ m => (ra δ m).bind fun x m => (rb δ m).bind fun y m => oR (itRng2 x y) m) := by
  refine (pi_range2 (c.glb hv) (c.bl "range" (by decide)) (pa_cons he (pa_cons he2 pa_nil (star_cons hn2)) (star_cons hn)) (by rw [star_cons hn, star_cons hn2]; rfl) (star_cons hn2)).imp fun σ H Q h => rdX.bind h fun δ d m ρ F v H' M rs r P => ?_
  refine ⟨δ, m, ρ, F, M, rs, Post.bind P fun d2 m2 v2 H2 ρ2 F2 x2 M2 r2 P2 => ?_⟩
  unfold itRng2 at P2
  split at P2
  · rename_i i j
    have r' := r.mono x2
    cases r'
    cases r2
    split at P2
    · rename_i hj
      exact ⟨i, j, rfl, by omega, Post.val P2 M2 (it_rng (by have := hj.2.2.2.2; omega))⟩
    · exact P2.elim
  · exact P2.elim
end
end Dn

/-! Dn, part KT: enumerate of a tuple. -/
namespace Dn
open PySem
open Sem (wp)
open AutoSeq1 (wpAny_loadPart')
theorem meets_enum_tup (l : Addr) (items : Array Value) (n : Nat) (dct : Option Addr) (sl : Array (Option Value)) :
    Meets (Builtin.«enumerate.__new__» ⟨[.type "enumerate", .ref l], []⟩) (fun _ R s => s.heap.get? l = some { cls := .type "tuple", dict := dct, data := .seq items n, slots := sl } ∧
      R (.ok (.ret (.ref (s.heap.push { cls := .type "tuple_iterator", data := .fields #[.ref l, .int 0 0] }).objs.size)))
        { s with heap := (s.heap.push { cls := .type "tuple_iterator", data := .fields #[.ref l, .int 0 0] }).push { cls := .type "enumerate", data := .fields #[.none, .bool false, .ref s.heap.objs.size, rawInt 0, .none, .none] } }) :=
  .of_wp fun prog w A R s h => by
    obtain ⟨hp, g, d, tk, os⟩ := s; obtain ⟨hl, h⟩ := h
    have hsub := sub_enumerate
    have hL : Heap.IsTuple (Shared.heap ⟨hp, g, d, tk, os⟩) l items := ⟨_, hl, rfl, n, rfl⟩
    wp_walk using wpAny_loadPart' hl
    refine wpAny_stack_any fun st => wpAny_pure ?_
    split
    · rename_i c _ _ _ _ _
      cases (c == Value.type "enumerate")
      · wp_walk using wpAny_loadPart' hl, wpAny_pyIter_tuple hL
        exact ⟨_, rfl, h⟩
      · wp_walk using wpAny_loadPart' hl, wpAny_pyIter_tuple hL
        exact ⟨_, rfl, h⟩
    · wp_walk using wpAny_loadPart' hl, wpAny_pyIter_tuple hL
      exact ⟨_, rfl, h⟩
section
variable {prog : Program} {w : World} {A : Around} {E : Value → Shared → Prop} {s : Shared}
theorem call_enum_tup {l : Addr} {items : Array Value} {Q : Value → Shared → Prop} (hL : s.heap.IsTuple l items)
    (h : ∀ h', IsEnum h' (s.heap.objs.size + 1) s.heap.objs.size 0 .none → h'.IsTupleIter s.heap.objs.size l 0 → h'.objs.size = s.heap.objs.size + 2 →
      (∀ b o, s.heap.get? b = some o → h'.get? b = some o) → Q (.ref (s.heap.objs.size + 1)) { s with heap := h' }) :
    wpAny (model prog w) A (call (.type "enumerate") [.ref l]) Q E s := by
  obtain ⟨⟨c, dct, dt, sl⟩, hl, hc, n, hd⟩ := hL
  replace hc : c = .type "tuple" := hc
  replace hd : dt = .seq items n := hd
  subst hc hd
  refine callType_new F.called_enumerate (by decide) (F.typeCall_enumerate_1 _) (F.newCall_enumerate_1 _) (fun obj => F.args_object_init_2 obj _) F.entry_enumerate_new
    (meets_enum_tup l items n dct sl) ⟨hl, ?_⟩
  have hz : (s.heap.push { cls := .type "tuple_iterator", data := .fields #[.ref l, .int 0 0] }).objs.size = s.heap.objs.size + 1 := Heap.size_push ..
  show _ ∧ _
  rw [hz]
  have he : IsEnum ((s.heap.push { cls := .type "tuple_iterator", data := .fields #[.ref l, .int 0 0] }).push
      { cls := .type "enumerate", data := .fields #[.none, .bool false, .ref s.heap.objs.size, rawInt 0, .none, .none] }) (s.heap.objs.size + 1) s.heap.objs.size 0 .none := by
    have := Heap.get?_push_size (s.heap.push { cls := .type "tuple_iterator", data := .fields #[.ref l, .int 0 0] })
      (o := { cls := .type "enumerate", data := .fields #[.none, .bool false, .ref s.heap.objs.size, rawInt 0, .none, .none] }) rfl
    rw [hz] at this; exact this
  refine ⟨⟨_, he, rfl⟩, h _ he ⟨_, Heap.get?_push_of_some _ (Heap.get?_push_size _ rfl), rfl, rfl⟩ (by rw [Heap.size_push, hz]) fun b o x => Heap.get?_push_of_some _ (Heap.get?_push_of_some _ x)⟩
theorem draws_tup {it l : Addr} {items : Array Value} (hne : l ≠ it) (hh : A.handled = none) : Draws prog w A it [it, l] items.size (fun i x => items[i]? = some x) (fun i h => h.IsTupleIter it l i ∧ h.IsTuple l items) where
  live := fun i h st => let ⟨⟨o, ho, _⟩, _⟩ := st; ⟨o, ho⟩
  frame := fun i h h' st k => by
    obtain ⟨⟨o, ho, r⟩, ⟨o2, ho2, r2⟩⟩ := st
    exact ⟨⟨o, k it (by simp) _ ho, r⟩, ⟨o2, k l (by simp) _ ho2, r2⟩⟩
  item := fun i s Q E hi st hQ => by
    refine RZ.nextOf_tuple_item st.1 st.2 (x := items[i]) (by simp [hi]) fun h' hit sb => ?_
    have := hQ items[i] h' s.toks (by simp [hi]) ⟨hit, ?_⟩ sb
    · exact this
    · obtain ⟨o2, ho2, r2⟩ := st.2
      exact ⟨o2, (sb.2 l hne).trans ho2, r2⟩
  done := fun s Q E st hE => RZ.nextOf_tuple_end hh st.1 st.2 (by simp) hE
theorem draws_end {it l : Addr} {items : Array Value} {n : Nat} (hn : items[n]? = none) (hh : A.handled = none) : Draws prog w A it [it, l] n (fun _ _ => True) (fun i h => i = n ∧ h.IsTupleIter it l i ∧ h.IsTuple l items) where
  live := fun i h st => let ⟨_, ⟨o, ho, _⟩, _⟩ := st; ⟨o, ho⟩
  frame := fun i h h' st k => by
    obtain ⟨e, ⟨o, ho, r⟩, ⟨o2, ho2, r2⟩⟩ := st
    exact ⟨e, ⟨o, k it (by simp) _ ho, r⟩, ⟨o2, k l (by simp) _ ho2, r2⟩⟩
  item := fun i s Q E hi st hQ => absurd st.1 (Nat.ne_of_lt hi)
  done := fun s Q E st hE => RZ.nextOf_tuple_end hh st.2.1 st.2.2 hn hE
end
end Dn
namespace L2
open PySem PySem.Spec PyProof.Rows
/-- the tuple at a, each item in a new pair -/
def IteT (K : PySem.W.Frag) (a : Addr) : It :=
  ⟨fun i H => ∃ (xs : List V) (x : V), SqT K H a xs ∧ xs[i]? = some x, fun i H v H' => ∃ T x, v = .ref T ∧ H T = none ∧ H' = upd H T (.tup [.int (i : Nat), x]) ∧ ∀ xs, SqT K H a xs → xs[i]? = some x, fun i H => ∃ xs : List V, SqT K H a xs ∧ xs.length ≤ i⟩
theorem turn_enumT {P : Program} {w : World} {K : PySem.W.Frag} {elts : List Expr} {kk : Nat} {tpos : Pos} (a e it : Addr) (hae : a ≠ e) (hai : a ≠ it) :
    Turn P w K (.Tuple elts kk tpos) (IteT K a) [e, it] e (fun i h => (∃ old, IsEnum h e it ((i : Nat) : Int) old) ∧ h.IsTupleIter it a i ∧ e ≠ it) where
  mem := by simp
  obj := fun i h st b hb => by
    obtain ⟨⟨old, he⟩, ⟨o, ho, hc, hd⟩, _⟩ := st
    have e' : b = e ∨ b = it := by simpa using hb
    rcases e' with z | z
    · rw [z]; exact ⟨_, he, fun v q => nomatch q⟩
    · rw [z]; exact ⟨o, ho, fun v q => by rw [hd] at q; cases q⟩
  keep := fun i h h' st k => let ⟨⟨old, he⟩, ⟨o, ho, r⟩, hne⟩ := st; ⟨⟨old, k e (by simp) _ he⟩, ⟨o, k it (by simp) _ ho, r⟩, hne⟩
  item := by
    intro X hP hw hK hc i pins s σ H E I hf st hg
    subst hP hw hK
    obtain ⟨⟨old, he⟩, hit, hne⟩ := st
    obtain ⟨xs, x, hq, hx⟩ := hg
    obtain ⟨its, rv, p, hz⟩ := I.tuple hq
    obtain ⟨u, hu, ru⟩ := rv.get hx
    have hel : e < s.heap.objs.size := Heap.lt_size he
    have hil : it < s.heap.objs.size := by obtain ⟨_, q, _⟩ := hit; exact Heap.lt_size q
    have hlt : i < its.toArray.size := by
      have := (List.getElem?_eq_some_iff.mp hu).1
      simpa using this
    refine wpAny_pyNext_enum_itemD (Dn.draws_tup hai (by exact I.ok.hd hc)) he ⟨hit, p⟩ hlt hne (by simp [hne, Ne.symm hae]) fun x' h' tk hP' ho hst hT hsz hk => ?_
    have hx' : x' = u := by
      have e1 : its.toArray[i]? = some u := by simpa using hu
      rw [e1] at hP'
      exact (Option.some.inj hP').symm
    subst hx'
    refine ⟨_, rfl, wpAny_letOwnedTupleGo_enum (s := { s with heap := h', toks := tk + 1 }) ho fun h'' he' sb => ?_⟩
    have hT2 : h''.get? s.heap.objs.size = some { cls := .type "tuple", data := .seq #[.int i tk, x'] } := (sb.2 _ (Nat.ne_of_gt hel)).trans hT
    have new : ObjOk X.prog X.w (upd H s.heap.objs.size (.tup [.int (i : Nat), x])) h'' s.heap.objs.size (.tup [.int (i : Nat), x]) :=
      ⟨by show 2 ≤ sizeLine; decide, [.int i tk, x'], .cons ⟨_, rfl⟩ (.cons ru .nil), ⟨_, hT2, rfl, _, rfl⟩⟩
    have I1 : Inv X pins σ (upd H s.heap.objs.size (.tup [.int (i : Nat), x])) { s with heap := h'', toks := tk + 1 } :=
      I.turnedNew (ch := [e, it]) (fun b ob hb q => (sb.2 b (fun z => hb (by simp [z]))).trans (hk b ob (fun z => hb (by simp [z])) (fun z => hb (by simp [z])) q)) hf (Nat.le_refl _) new
    refine ⟨.ref s.heap.objs.size, _, I1, rfl, ⟨_, x, rfl, I.hok.fresh (Nat.le_refl _), rfl, fun ys hy => ?_⟩, ⟨⟨x', ?_⟩, ?_, hne⟩, fun b hb => ?_⟩
    · rw [I.tuple_inj hy hq]; exact hx
    · have e1 : ((i + 1 : Nat) : Int) = (i : Int) + 1 := by omega
      rw [e1]; exact he'
    · obtain ⟨o, ho, r⟩ := hst.1
      exact ⟨o, (sb.2 it (Ne.symm hne)).trans ho, r⟩
    · have hb' : b < s.heap.objs.size := by
        have e' : b = e ∨ b = it := by simpa using hb
        rcases e' with z | z
        · rw [z]; exact hel
        · rw [z]; exact hil
      rw [upd_ne (Nat.ne_of_lt hb')]
      exact (hf b hb).1
  done := by
    intro X hP hw hK hc i pins s σ H E I hf st hg
    subst hP hw hK
    obtain ⟨⟨old, he⟩, hit, hne⟩ := st
    obtain ⟨xs, hq, hx⟩ := hg
    obtain ⟨its, rv, p, hz⟩ := I.tuple hq
    obtain ⟨f0, f1, f2, f3, f4, f5⟩ := hf it (by simp)
    have hl := rv.length
    exact wpAny_pyNext_enum_endD (Dn.draws_end (items := its.toArray) (n := i) (by simp; omega) (by exact I.ok.hd hc)) he ⟨rfl, hit, p⟩ fun h' eb => ⟨rfl, I.turned (t' := s.toks) (fun b o hb q => eb b o hb q) f0 f1 f3 f4 f5⟩
  self := fun A i s Q E st h => let ⟨⟨_, he⟩, _⟩ := st; wpAny_pyIter_enum he h
def iEnumT (K : PySem.W.Frag) (ta : TA) : TI := fun σ H R => ta σ H fun vs H1 => ∃ a xs, vs = [.ref a] ∧ SqT K H1 a xs ∧ R (IteT K a) H1
theorem pi_enumT {X : Cx} {e : Expr} {ta : TA} {p pos tpos : Pos} {elts : List Expr} {kk : Nat} (hg : Gl X "enumerate") (hm : X.mg "enumerate" = none) (ha : PA X [e] ta) (hs : starEach [e] X.env = [(false, eval e X.env)] := by rfl) :
    PI X (.Tuple elts kk tpos) (.Call (.Name "enumerate" p) [e] [] pos) (iEnumT X.K ta) := by
  refine ⟨fun pins s σ H R I h => ?_⟩
  refine Call_ (ld_blt I hg hm boot_enumerate (PyProof.Rows.callWith_type1 (thn (ha.run pos pins s σ H _ I h) fun us s1 ⟨vs, H1, I1, r1, q1⟩ => ?_) hs rfl))
  obtain ⟨a, xs, ex, hq, q⟩ := q1
  subst ex
  cases r1 with
  | cons r rr =>
    cases rr
    cases r
    obtain ⟨its, rv, p', hz⟩ := I1.tuple hq
    have hal : a < s1.heap.objs.size := by obtain ⟨_, q, _⟩ := p'; exact Heap.lt_size q
    refine Dn.call_enum_tup p' fun h' he hit hsz hk => wpAny_pyIter_enum he ?_
    have I2 : Inv X pins σ H1 { s1 with heap := h' } := I1.kept (t' := s1.toks) hk
    refine ⟨s1.heap.objs.size + 1, [s1.heap.objs.size + 1, s1.heap.objs.size], _, _, H1, rfl, I2, turn_enumT a (s1.heap.objs.size + 1) s1.heap.objs.size (Nat.ne_of_lt (Nat.lt_succ_of_lt hal)) (Nat.ne_of_lt hal), ⟨⟨.none, he⟩, hit, Nat.succ_ne_self _⟩, fun b hb => ?_, q⟩
    have e' : b = s1.heap.objs.size + 1 ∨ b = s1.heap.objs.size := by simpa using hb
    have hle : s1.heap.objs.size ≤ b := by
      rcases e' with z | z
      · rw [z]; exact Nat.le_add_right _ _
      · rw [z]; exact Nat.le_refl _
    exact I1.fpOk hle (I1.hok.fresh hle)
end L2

/-! Dn, part K: zip, enumerate; comprehensions. -/
namespace Dn
open PySem PySem.Spec PyProof.Rows L2
section
variable {g : Gn} {W : WX} {X : Cx} {T' : Tb} {p : Pg} {lv : Nat} {cd : Cd}
theorem RPs.at {F : Hp} : ∀ {l : List P} {vs : List V} {i : Nat} {x : P}, RPs g F l vs → l[i]? = some x → ∃ v, vs[i]? = some v ∧ RP g F x v
  | _, _, i, _, .nil, e => by simp at e
  | _, _, 0, _, .cons h _, e => by simp at e; subst e; exact ⟨_, rfl, h⟩
  | _, _, i + 1, _, .cons _ t, e => by
    obtain ⟨v, e1, r⟩ := RPs.at (i := i) t (by simpa using e)
    exact ⟨v, by simpa using e1, r⟩
theorem zipP_get : ∀ {l r : List P} {i : Nat}, (∀ d, (zipP l r)[i]? = some d → ∃ a b, l[i]? = some a ∧ r[i]? = some b ∧ d = .p (.tup [a, b])) ∧ ((zipP l r)[i]? = none → l.length ≤ i ∨ r.length ≤ i)
  | [], r, i => ⟨fun d e => by simp [zipP] at e, fun _ => .inl (Nat.zero_le _)⟩
  | a :: l, [], i => ⟨fun d e => by simp [zipP] at e, fun _ => .inr (Nat.zero_le _)⟩
  | a :: l, b :: r, 0 => ⟨fun d e => by simp [zipP] at e; exact ⟨a, b, rfl, rfl, e.symm⟩, fun e => by simp [zipP] at e⟩
  | a :: l, b :: r, i + 1 => by
    obtain ⟨h1, h2⟩ := zipP_get (l := l) (r := r) (i := i)
    refine ⟨fun d e => ?_, fun e => ?_⟩
    · obtain ⟨x, y, e1, e2, e3⟩ := h1 d (by simpa [zipP] using e)
      exact ⟨x, y, by simpa using e1, by simpa using e2, e3⟩
    · rcases h2 (by simpa [zipP] using e) with h | h
      · exact .inl (by simpa using h)
      · exact .inr (by simpa using h)
/-- a new pair -/
theorem pair_new {ρ : Rho} {F H : Hp} {m : Mem} {x y : P} {v u : V} {t : Addr} (M : MRel g ρ F m H) (ht : H t = none) (rx : RP g F x v) (ry : RP g F y u) :
    ∃ F', Ext ρ F m H ρ F' m (upd H t (.tup [v, u])) ∧ MRel g ρ F' m (upd H t (.tup [v, u])) ∧ RD g ρ F' m.length (.p (.tup [x, y])) (.ref t) := by
  obtain ⟨x1, M1⟩ := step_pure (ho := .tup [v, u]) M ht
  exact ⟨_, x1, M1, RP.tup (show 2 ≤ sizeLine by decide) upd_same (.cons (RP.up x1.Sub rx) (.cons (RP.up x1.Sub ry) .nil))⟩
theorem zipP_len : ∀ {l r : List P}, (zipP l r).length ≤ l.length
  | [], _ => Nat.zero_le _
  | _ :: _, [] => Nat.zero_le _
  | _ :: l, _ :: r => Nat.succ_le_succ (zipP_len (l := l) (r := r))
theorem it_zip (hK : X.K = g.K) {ρ0 : Rho} {F0 : Hp} {k : Nat} {l r : List P} {a b : Addr} {vs us : List V} (hz : l.length ≤ sizeLine) (h1 : F0 a = some (.lst vs)) (h2 : F0 b = some (.lst us)) (r1 : RPs g F0 l vs) (r2 : RPs g F0 r us) :
    RIt g ρ0 F0 k ⟨zipP l r, none⟩ (Itz X.K a b) := by
  refine ⟨Nat.le_trans zipP_len hz, ?_⟩
  intro ρ F m H on M _ i
  have q1 := (M.subF on.sub).lst h1
  have q2 := (M.subF on.sub).lst h2
  obtain ⟨z1, z2⟩ := zipP_get (l := l) (r := r) (i := i)
  refine ⟨fun d e => ?_, fun e => ⟨vs, us, SqL.of q1, SqL.of q2, ?_⟩⟩
  · obtain ⟨x, y, e1, e2, rfl⟩ := z1 d e
    obtain ⟨v, e3, p1⟩ := r1.at e1
    obtain ⟨u, e4, p2⟩ := r2.at e2
    refine ⟨⟨vs, us, v, u, SqL.of q1, SqL.of q2, e3, e4⟩, fun w H' y' => ?_⟩
    obtain ⟨t, v', u', rfl, ht, rfl, k1, k2⟩ := y'
    have := k1 vs (SqL.of q1)
    rw [e3] at this; cases this
    have := k2 us (SqL.of q2)
    rw [e4] at this; cases this
    exact pair_new M ht (RP.up (Sub.of on.sub) p1) (RP.up (Sub.of on.sub) p2)
  · rw [← r1.length, ← r2.length]; exact z2 e
theorem it_zipT (hK : X.K = g.K) {ρ0 : Rho} {F0 : Hp} {k : Nat} {l r : List P} {a b : Addr} {vs us : List V} (hz : l.length ≤ sizeLine) (h1 : F0 a = some (.tup vs)) (h2 : F0 b = some (.tup us)) (r1 : RPs g F0 l vs) (r2 : RPs g F0 r us) :
    RIt g ρ0 F0 k ⟨zipP l r, none⟩ (RZ.ItzT X.K a b) := by
  refine ⟨Nat.le_trans zipP_len hz, ?_⟩
  intro ρ F m H on M _ i
  have q1 := (M.subF on.sub).tup h1
  have q2 := (M.subF on.sub).tup h2
  obtain ⟨z1, z2⟩ := zipP_get (l := l) (r := r) (i := i)
  refine ⟨fun d e => ?_, fun e => ⟨vs, us, SqT.of q1, SqT.of q2, ?_⟩⟩
  · obtain ⟨x, y, e1, e2, rfl⟩ := z1 d e
    obtain ⟨v, e3, p1⟩ := r1.at e1
    obtain ⟨u, e4, p2⟩ := r2.at e2
    refine ⟨⟨vs, us, v, u, SqT.of q1, SqT.of q2, e3, e4⟩, fun w H' y' => ?_⟩
    obtain ⟨t, v', u', rfl, ht, rfl, k1, k2⟩ := y'
    have := k1 vs (SqT.of q1)
    rw [e3] at this; cases this
    have := k2 us (SqT.of q2)
    rw [e4] at this; cases this
    exact pair_new M ht (RP.up (Sub.of on.sub) p1) (RP.up (Sub.of on.sub) p2)
  · rw [← r1.length, ← r2.length]; exact z2 e
theorem i_zip (c : Cok g T' p lv X W cd) {tes : List Expr} {kk : Nat} {tp : Pos} {e e2 : Expr} {np pos : Pos} {ra rb : Sl → Mem → R D} (hv : isGl cd "zip" = true) (he : PE X e (rdE g W ra)) (hn : noStar e = true) (he2 : PE X e2 (rdE g W rb)) (hn2 : noStar e2 = true) :
    PI X (.Tuple tes kk tp) (.Call (.Name "zip" np) [e, e2] [] pos) (rdIt g W fun δ m => (ra δ m).bind fun x m => (rb δ m).bind fun y m => oR (itZip x y) m) := by
  refine (RZ.pi_zipA (c.glb hv) (c.bl "zip" (by decide)) (pa_cons he (pa_cons he2 pa_nil (star_cons hn2)) (star_cons hn)) (star_cons hn) (plain_any (by rw [List.all_cons, hn2]; rfl))).imp fun σ H Q h => rdX.bind h fun δ d m ρ F v H' M rs r P => ?_
  refine ⟨δ, m, ρ, F, M, rs, Post.bind P fun d2 m2 v2 H2 ρ2 F2 x2 M2 r2 P2 => ?_⟩
  have r' := r.mono x2
  unfold itZip at P2
  split at P2
  · cases r' with
    | lst z1 h1 t1 => cases r2 with
      | lst z2 h2 t2 => exact ⟨_, _, _, _, rfl, .inl ⟨SqL.of (M2.sub.lst h1), SqL.of (M2.sub.lst h2), Post.val P2 M2 (it_zip c.K z1 h1 h2 t1 t2)⟩⟩
  · cases r' with
    | tup z1 h1 t1 => cases r2 with
      | tup z2 h2 t2 => exact ⟨_, _, _, _, rfl, .inr ⟨SqT.of (M2.sub.tup h1), SqT.of (M2.sub.tup h2), Post.val P2 M2 (it_zipT c.K z1 h1 h2 t1 t2)⟩⟩
  · exact P2.elim
theorem enumP_get : ∀ {l : List P} {k i : Nat}, (∀ d, (enumP k l)[i]? = some d → ∃ a, l[i]? = some a ∧ d = .p (.tup [.int ((k + i : Nat) : Int), a])) ∧ ((enumP k l)[i]? = none → l.length ≤ i)
  | [], k, i => ⟨fun d e => by simp [enumP] at e, fun _ => Nat.zero_le _⟩
  | a :: l, k, 0 => ⟨fun d e => by simp [enumP] at e; exact ⟨a, rfl, e.symm⟩, fun e => by simp [enumP] at e⟩
  | a :: l, k, i + 1 => by
    obtain ⟨h1, h2⟩ := enumP_get (l := l) (k := k + 1) (i := i)
    refine ⟨fun d e => ?_, fun e => ?_⟩
    · obtain ⟨x, e1, e3⟩ := h1 d (by simpa [enumP] using e)
      exact ⟨x, by simpa using e1, by rw [e3, show k + 1 + i = k + (i + 1) by omega]⟩
    · simpa using h2 (by simpa [enumP] using e)
theorem enumP_len : ∀ {l : List P} {k : Nat}, (enumP k l).length = l.length
  | [], _ => rfl
  | _ :: l, k => congrArg Nat.succ (enumP_len (l := l) (k := k + 1))
/-- a list, each item with its number -/
theorem it_enum (hK : X.K = g.K) {ρ0 : Rho} {F0 : Hp} {k : Nat} {t : Its} {ps : List P} {a : Addr} (hz : ps.length ≤ sizeLine) (ht : t.l = enumP 0 ps) (h : ∀ ρ F m H, On ρ0 F0 k ρ F m → MRel g ρ F m H → t.held m → ∃ vs, H a = some (.lst vs) ∧ RPs g F ps vs) : RIt g ρ0 F0 k t (Ite X.K a) := by
  refine ⟨by rw [ht, enumP_len]; exact hz, fun ρ2 F2 m2 H2 on M2 hd i => ?_⟩
  obtain ⟨vs, q1, t1⟩ := h ρ2 F2 m2 H2 on M2 hd
  obtain ⟨z1, z2⟩ := enumP_get (l := ps) (k := 0) (i := i)
  rw [ht]
  refine ⟨fun d e => ?_, fun e => ⟨vs, SqL.of q1, by rw [← t1.length]; exact z2 e⟩⟩
  obtain ⟨x, e1, rfl⟩ := z1 d e
  obtain ⟨v, e3, p1⟩ := t1.at e1
  refine ⟨⟨vs, v, SqL.of q1, e3⟩, fun w H3 y' => ?_⟩
  obtain ⟨t, v', rfl, ht, rfl, k1⟩ := y'
  have := k1 vs (SqL.of q1)
  rw [e3] at this; cases this
  rw [Nat.zero_add]
  exact pair_new M2 ht (RP.int _) p1
theorem i_enum (c : Cok g T' p lv X W cd) {tes : List Expr} {kk : Nat} {tp : Pos} {e : Expr} {np pos : Pos} {ra : Sl → Mem → R D} (hv : isGl cd "enumerate" = true) (he : PE X e (rdE g W ra)) (hn : noStar e = true) :
    PI X (.Tuple tes kk tp) (.Call (.Name "enumerate" np) [e] [] pos) (rdIt g W fun δ m => (ra δ m).bind fun x m => oR (itEnum x m) m) := by
  refine ⟨fun pins s σ H R' I ⟨δ, m, ρ, F, M, rs, P⟩ => ?_⟩
  dsimp only at P
  have bl : ∀ {t : TI}, t = t := fun {t} => rfl
  cases q : ra δ m with
  | no => rw [q] at P; exact P.elim
  | ex x m' =>
    rw [q] at P
    exact (pi_enum (c.glb hv) (c.bl "enumerate" (by decide)) (pa_cons he pa_nil (star_cons hn)) (star_cons hn)).run pins s σ H R' I ⟨δ, m, ρ, F, M, rs, by rw [q]; exact P⟩
  | ok d m' =>
    rw [q] at P
    have P : Post g (RIt g) ρ F m H (oR (itEnum d m') m') R' (WE W σ) := P
    have key : ∀ {Q : VK}, (∀ v H' ρ' F', Ext ρ F m H ρ' F' m' H' → MRel g ρ' F' m' H' → RD g ρ' F' m'.length d v → Q v H') → rdE g W ra σ H Q := fun k => ⟨δ, m, ρ, F, M, rs, by rw [q]; exact k⟩
    have lstC : (∀ v H' ρ' F', Ext ρ F m H ρ' F' m' H' → MRel g ρ' F' m' H' → RD g ρ' F' m'.length d v → ∃ a xs, v = .ref a ∧ SqL X.K H' a xs ∧ R' (Ite X.K a) H') → wpAny (model X.prog X.w) X.A (eval (.Call (.Name "enumerate" np) [e] [] pos) X.env) (fun v s1 => wpAny (model X.prog X.w) X.A (pyIter v) (PIE X pins σ (.Tuple tes kk tp) R') X.xe s1) X.xe s := fun k =>
      (pi_enum (c.glb hv) (c.bl "enumerate" (by decide)) (pa_cons he pa_nil (star_cons hn)) (star_cons hn)).run pins s σ H R' I (key fun v H' ρ' F' x M' r => by
        obtain ⟨a, xs, ev, hs, hR⟩ := k v H' ρ' F' x M' r
        exact ⟨a, xs, by rw [ev], hs, hR⟩)
    cases d with
    | p y =>
      cases y with
      | lst l =>
        refine lstC fun v H' ρ' F' x M' r => ?_
        cases r with
        | lst hz h1 t1 =>
          rename_i a vs
          exact ⟨a, vs, rfl, SqL.of (M'.sub.lst h1), P _ _ _ _ x M' (it_enum c.K hz rfl fun ρ2 F2 m2 H2 on M2 _ => ⟨vs, (M2.subF on.sub).lst h1, RPs.up (Sub.of on.sub) t1⟩)⟩
      | tup l =>
        refine (pi_enumT (c.glb hv) (c.bl "enumerate" (by decide)) (pa_cons he pa_nil (star_cons hn)) (star_cons hn)).run pins s σ H R' I (key fun v H' ρ' F' x M' r => ?_)
        cases r with
        | tup hz h1 t1 =>
          rename_i a vs
          refine ⟨a, vs, rfl, SqT.of (M'.sub.tup h1), P _ _ _ _ x M' ⟨by rw [enumP_len]; exact hz, fun ρ2 F2 m2 H2 on M2 _ i => ?_⟩⟩
          have q1 := SqT.of (K := X.K) ((M2.subF on.sub).tup h1)
          obtain ⟨z1, z2⟩ := enumP_get (l := l) (k := 0) (i := i)
          refine ⟨fun d e => ?_, fun e => ⟨vs, q1, by rw [← t1.length]; exact z2 e⟩⟩
          obtain ⟨x, e1, rfl⟩ := z1 d e
          obtain ⟨v, e3, p1⟩ := t1.at e1
          refine ⟨⟨vs, v, q1, e3⟩, fun w H3 y' => ?_⟩
          obtain ⟨t, v', rfl, ht, rfl, k1⟩ := y'
          have := k1 vs q1
          rw [e3] at this; cases this
          rw [Nat.zero_add]
          exact pair_new M2 ht (RP.int _) (RP.up (Sub.of on.sub) p1)
      | _ => exact P.elim
    | ref n =>
      have P : Post g (RIt g) ρ F m H (oR (match m'.get n with | some (.lst l) => (match allP l with | some ps => some ⟨enumP 0 ps, some (n, l)⟩ | none => none) | _ => none) m') R' (WE W σ) := P
      cases q2 : m'.get n with
      | none => rw [q2] at P; exact P.elim
      | some o =>
        rw [q2] at P
        cases o with
        | lst l =>
          dsimp only at P
          split at P
          · rename_i ps ep
            refine lstC fun v H' ρ' F' x M' r => ?_
            obtain ⟨ho, rfl, h1, h2⟩ := M'.look q2 r
            have hz := rmo_line h2
            rw [allP_eq ep, List.length_map] at hz
            obtain ⟨vs, rfl, h3⟩ := rmo_lst h2
            refine ⟨_, vs, rfl, SqL.of h1, P _ _ _ _ x M' (it_enum c.K hz rfl fun ρ2 F2 m2 H2 on M2 hd => ?_)⟩
            obtain ⟨ho, _, h4, h5⟩ := M2.look (v := .ref (ρ2 n)) hd ⟨Nat.lt_of_lt_of_le r.1 on.len, rfl⟩
            obtain ⟨us, rfl, h6⟩ := rmo_lst h5
            rw [allP_eq ep] at h6
            exact ⟨us, by rw [← on.agr n r.1]; exact h4, RPs.of h6⟩
          · exact P.elim
        | _ => exact P.elim
end
end Dn

/-! Dn, part L: comprehensions. -/
namespace Dn
open PySem PySem.Spec PyProof.Rows L2
/-! ### a heap without one object -/
def hide (L : Addr) (H : Hp) : Hp := fun a => if a = L then none else H a
theorem hide_self {L : Addr} {H : Hp} : hide L H L = none := if_pos rfl
theorem hide_ne {L a : Addr} {H : Hp} (h : a ≠ L) : hide L H a = H a := if_neg h
theorem hide_upd {L : Addr} {H : Hp} {o : HO} : hide L (upd H L o) = hide L H := by
  funext a
  unfold hide
  split
  · rfl
  · rename_i h; exact upd_ne h
theorem hide_none {L : Addr} {H : Hp} (h : H L = none) : hide L H = H := by
  funext a
  unfold hide
  split
  · rename_i e; rw [e, h]
  · rfl
theorem upd_hide {L : Addr} {H : Hp} {o : HO} (h : H L = some o) : upd (hide L H) L o = H := by
  funext a
  by_cases e : a = L
  · rw [e, upd_same, h]
  · rw [upd_ne e, hide_ne e]
theorem hide_some {L a : Addr} {H : Hp} {o : HO} (h : hide L H a = some o) : a ≠ L ∧ H a = some o := by
  unfold hide at h
  split at h
  · cases h
  · rename_i e; exact ⟨e, h⟩
section
variable {g : Gn} {ρ ρ1 : Rho} {F F1 H H1 : Hp} {m m1 : Mem} {L : Addr}
theorem Ext.hide (x : Ext ρ F m H ρ1 F1 m1 H1) : Ext ρ F m (hide L H) ρ1 F1 m1 (hide L H1) where
  sub := x.sub
  len := x.len
  agr := x.agr
  dead := x.dead
  fresh := fun n h l => by
    have := x.fresh n h l
    unfold Dn.hide
    split
    · rfl
    · exact this
  frame := fun a o h hl => by
    obtain ⟨h1, h2⟩ := hide_some h
    rw [hide_ne h1]
    exact x.frame a o h2 hl
  there := fun a o h => by
    obtain ⟨h1, h2⟩ := hide_some h
    rw [hide_ne h1]
    exact x.there a o h2
  new := fun a o h => by
    rcases x.new a o h with h | h | h
    · exact .inl h
    · refine .inr (.inl ?_)
      unfold Dn.hide
      split
      · rfl
      · exact h
    · exact .inr (.inr h)
theorem MRel.unhide (M : MRel g ρ F m (hide L H)) : MRel g ρ F m H where
  sub := fun a o e => by
    rcases M.sub a o e with h | ⟨z, od, h⟩
    · exact .inl (hide_some h).2
    · exact .inr ⟨z, od, (hide_some h).2⟩
  mem := fun n o e => by
    obtain ⟨f, ho, h, r⟩ := M.mem n o e
    exact ⟨f, ho, (hide_some h).2, r⟩
  inj := M.inj
/-- the hidden one stays -/
theorem MRel.hidden (M : MRel g ρ F m (hide L H)) {o : HO} (hL : H L = some o) (x : Ext ρ F m H ρ1 F1 m1 H1) (M1 : MRel g ρ1 F1 m1 H1) : MRel g ρ1 F1 m1 (hide L H1) ∧ H1 L = some o := by
  have nl : ∀ n, Live m n → ρ n ≠ L := fun n ⟨u, e⟩ z => by
    obtain ⟨_, ho, h, _⟩ := M.mem n u e
    exact (hide_some h).1 z
  have nF : F1 L = none := by
    cases e : F1 L with
    | none => rfl
    | some u =>
      rcases x.new L u e with h | h | ⟨n, l, z⟩
      · have := M.free (hide_self (L := L) (H := H))
        rw [h] at this; cases this
      · rw [hL] at h; cases h
      · exact absurd z (nl n l)
  have nl1 : ∀ n, Live m1 n → ρ1 n ≠ L := fun n l z => by
    by_cases hn : n < m.length
    · rw [x.agr n hn] at z
      exact nl n (x.live hn l) z
    · have := x.fresh n (Nat.not_lt.mp hn) l
      rw [z, hL] at this; cases this
  refine ⟨⟨fun a u e => ?_, fun n u e => ?_, M1.inj⟩, x.frame L o hL nl⟩
  · have ne : a ≠ L := fun z => by rw [z, nF] at e; cases e
    rw [hide_ne ne]
    exact M1.sub a u e
  · obtain ⟨f, ho, h, r⟩ := M1.mem n u e
    exact ⟨f, ho, by rw [hide_ne (nl1 n ⟨u, e⟩)]; exact h, r⟩
end

/-! ### slots -/
theorem wipe_at {σ : L2.St} : ∀ {vs : List Nat} {i : Nat}, (wipe σ vs)[i]? = if i ∈ vs then (if i < σ.length then some none else none) else σ[i]?
  | [], i => by simp [wipe]
  | v :: vs, i => by
    unfold wipe
    by_cases e : v = i
    · subst e
      rw [if_pos List.mem_cons_self]
      by_cases hv : v < σ.length
      · rw [if_pos hv, List.getElem?_set_self (by rw [wipe_length]; exact hv)]
      · rw [if_neg hv]
        exact List.getElem?_eq_none (by simpa [wipe_length] using hv)
    · rw [List.getElem?_set_ne e, wipe_at (vs := vs)]
      have : (i ∈ v :: vs) ↔ i ∈ vs := by simp [Ne.symm e]
      simp only [this]
theorem wipe_same {σ σ2 : L2.St} {vs l : List Nat} (hl : ∀ i ∈ l, i ∈ vs) (h : Same l (wipe σ vs) σ2) : wipe σ2 vs = wipe σ vs := by
  have len : σ2.length = σ.length := by rw [h.1, wipe_length]
  apply List.ext_getElem?
  intro i
  rw [wipe_at, wipe_at]
  split
  · rw [len]
  · rename_i hi
    rw [h.2 i fun z => hi (hl i z), wipe_at, if_neg hi]
theorem RSl.wipe {g : Gn} {ρ : Rho} {F : Hp} {k : Nat} {δ : List (Option D)} {σ : L2.St} (h : RSl g ρ F k δ σ) : ∀ vs : List Nat, RSl g ρ F k (wipeD δ vs) (L2.wipe σ vs)
  | [] => h
  | v :: vs => (RSl.wipe h vs).wipe1 v

/-! ### the run -/
theorem calm_post {α β γ : Type} {g : Gn} {rel : Rho → Hp → Nat → β → γ → Prop} {ρ : Rho} {F : Hp} {m : Mem} {H : Hp} {r : R α} {K : α → Mem → R β} {Q : γ → Hp → Prop} {E : XK} (h : Post g rel ρ F m H (r.calm.bind K) Q E) : ∃ a m1, r = .ok a m1 ∧ Post g rel ρ F m H (K a m1) Q E := by
  cases r with
  | ok a m1 => exact ⟨a, m1, rfl, h⟩
  | ex x m1 => exact h.elim
  | no => exact h.elim
theorem calm_bind {α β : Type} {r : R α} {f : α → Mem → R β} : (r.bind f).calm = r.calm.bind fun a m => (f a m).calm := by cases r <;> rfl
theorem bind_bind {α β γ : Type} {r : R α} {f : α → Mem → R β} {k : β → Mem → R γ} : (r.bind f).bind k = r.bind fun a m => (f a m).bind k := by cases r <;> rfl
theorem bind_ext {α β : Type} {r : R α} {f k : α → Mem → R β} (h : ∀ a m, f a m = k a m) : r.bind f = r.bind k := by cases r <;> first | exact h _ _ | rfl
theorem lcRun_calm {f : D → Mem → R (Option D)} {t : Its} : ∀ {l : List D} {m : Mem} {x : Ex} {m1 : Mem}, lcRun f t l m ≠ .ex x m1
  | [], m, x, m1 => by
    unfold lcRun
    split <;> (intro h; cases h)
  | d :: l, m, x, m1 => by
    unfold lcRun
    split
    · intro h
      cases q : f d m with
      | ok o m2 =>
        rw [q] at h
        have h : ((lcRun f t l m2).bind fun ys m2 => R.ok (o.toList ++ ys) m2) = .ex x m1 := h
        cases q2 : lcRun f t l m2 with
        | ok ys m3 => rw [q2] at h; cases h
        | ex y m3 => exact lcRun_calm q2
        | no => rw [q2] at h; cases h
      | ex _ _ => rw [q] at h; cases h
      | no => rw [q] at h; cases h
    · intro h; cases h
abbrev W0 : WX := fun _ _ _ _ => False
section
variable {g : Gn} {W : WX} {X : Cx} {T' : Tb} {p : Pg} {lv : Nat} {cd : Cd}
/-- one turn's reading -/
def turn (rc : Sl → Mem → R Bool) (re : Sl → Mem → R D) (t : T) (δ : Sl) : D → Mem → R (Option D) := fun x m => (oR (asgT t x m δ) m).bind fun δ' m => (rc δ' m).bind fun k m => if k then (re δ' m).bind fun y m => .ok (some y) m else .ok none m
theorem e_lc (c : Cok g T' p lv X W cd) {mu : Bool} {elt tg iter : Expr} {ifs : List Expr} {scope : Scope} {own : List (Str × Nat)} {pos : Pos} {t : T} {rt : Sl → Mem → R Its} {rc : Sl → Mem → R Bool} {re : Sl → Mem → R D}
    (hi : PI X tg iter (rdIt g W rt)) (ok : BlkOk X.N X.env.scope scope own) (ho : ∀ i ∈ t.ixs, i ∈ own.map (·.2))
    (hg : ∀ (s : Shared) (H : Hp) (C : Addr) (cl : List (Str × Addr)) (fp : List Addr), PG (X.blk s H scope (compEnvC scope cl C X.env) fp) tg (rdG g t))
    (ht : ∀ (s : Shared) (H : Hp) (C : Addr) (cl : List (Str × Addr)) (fp : List Addr), PTs (X.blk s H scope (compEnvC scope cl C X.env) fp) ifs (rdT g W0 rc))
    (he : ∀ (s : Shared) (H : Hp) (C : Addr) (cl : List (Str × Addr)) (fp : List Addr), PE (X.blk s H scope (compEnvC scope cl C X.env) fp) elt (rdE g W0 re)) {σ : L2.St} {H : Hp} {Q : VK}
    (h : rdE g W (fun δ m => (rt δ m).bind fun its m => (lcRun (turn rc re t (wipeD δ (own.map (·.2)))) its its.l m).bind (mkL mu)) σ H Q) :
    tLc (rdIt g W rt) (rdG g t) (rdT g W0 rc) (rdE g W0 re) (own.map (·.2)) σ H Q := by
  refine rdX.bind h fun δ its m ρ F J H1 M rs RJ0 P => fun L hL => ?_
  obtain ⟨hline, RJ⟩ := RJ0
  generalize hf : turn rc re t (wipeD δ (own.map (·.2))) = f at P
  generalize hvs : own.map (·.2) = vs at *
  let Iv : Nat → Hp → Prop := fun i Hc => ∃ (ad : List D) (av : List V) (m' : Mem) (ρ' : Rho) (F' : Hp), Ext ρ F m H1 ρ' F' m' (hide L Hc) ∧ MRel g ρ' F' m' (hide L Hc) ∧ Hc L = some (.lst av) ∧ RDs g ρ' F' m'.length ad av ∧ ad.length ≤ i ∧
    PostD g ρ' F' m' (hide L Hc) ((lcRun f its (its.l.drop i) m').bind fun ys m => mkL mu (ad ++ ys) m) Q (WE W σ)
  have iv0 : Iv 0 (upd H1 L (.lst [])) := by
    refine ⟨[], [], m, ρ, F, ?_, ?_, upd_same, trivial, Nat.le_refl _, ?_⟩
    · rw [hide_upd, hide_none hL]; exact Ext.refl
    · rw [hide_upd, hide_none hL]; exact M
    · rw [hide_upd, hide_none hL]; exact P
  refine ⟨fun i n Hc => n = its.l.length - i ∧ i ≤ its.l.length ∧ Iv i Hc, ⟨_, rfl, Nat.zero_le _, iv0⟩, ?_⟩
  rintro i n Hc ⟨rfl, hi', ad, av, m', ρ', F', x1, M1, hc, rd, hal, P1⟩
  have on : On ρ F m.length ρ' F' m' := On.refl.ext x1
  by_cases hlt : i < its.l.length
  · have hdrop : its.l.drop i = its.l[i] :: its.l.drop (i + 1) := List.drop_eq_getElem_cons hlt
    rw [hdrop] at P1
    unfold lcRun at P1
    split at P1
    · rename_i held
      obtain ⟨go, yl⟩ := (RJ ρ' F' m' Hc on M1.unhide held i).1 its.l[i] (List.getElem?_eq_getElem hlt)
      refine .inr ⟨go, Iv (i + 1), fun H' q => ⟨_, by omega, rfl, hlt, q⟩, fun xv H' y => ?_⟩
      obtain ⟨F2, x2, M2, r2⟩ := yl xv H' y
      obtain ⟨M2h, hc2⟩ := M1.hidden hc x2 M2
      have P2 := Post.on (x2.hide (L := L)) P1
      rw [bind_bind] at P2
      obtain ⟨o, m3, eo, P3⟩ := calm_post P2
      -- the turn
      rw [← hf] at eo
      unfold turn at eo
      cases ea : asgT t its.l[i] m' (wipeD δ vs) with
      | none => rw [ea] at eo; cases eo
      | some δ' =>
        rw [ea] at eo
        have eo : ((rc δ' m').bind fun k m => if k then (re δ' m).bind fun y m => R.ok (some y) m else .ok none m) = .ok o m3 := eo
        have rs2 : RSl g ρ' F2 m'.length (wipeD δ vs) (wipe σ vs) := RSl.wipe ((rs.mono x1).mono (x2.hide (L := L))) vs
        refine ⟨its.l[i], wipeD δ vs, m', ρ', F2, δ', M2, r2, rs2, ea, fun σ2 rs3 same => ⟨wipe_same ho same, ?_⟩⟩
        cases ec : rc δ' m' with
        | no => rw [ec] at eo; cases eo
        | ex _ _ => rw [ec] at eo; cases eo
        | ok k m4 =>
          rw [ec] at eo
          have eo : (if k then (re δ' m4).bind fun y m => R.ok (some y) m else .ok none m4) = .ok o m3 := eo
          refine ⟨δ', m', ρ', F2, M2, rs3, ?_⟩
          rw [ec]
          intro v H4 ρ4 F4 x4 M4 ev
          subst ev
          obtain ⟨M4h, hc4⟩ := M2h.hidden hc2 x4 M4
          have P4 := Post.on (x4.hide (L := L)) P3
          cases v with
          | false =>
            rw [if_neg (by simp)] at eo ⊢
            injection eo with e1 e2
            subst e1 e2
            refine ⟨ad, av, m4, ρ4, F4, (x1.trans (x2.hide (L := L))).trans x4.hide, M4h, hc4, (rd.mono (x2.hide (L := L))).mono (x4.hide (L := L)), by omega, ?_⟩
            rw [bind_bind] at P4
            exact P4
          | true =>
            rw [if_pos rfl] at eo ⊢
            refine ⟨δ', m4, ρ4, F4, M4, rs3.mono x4, ?_⟩
            cases er : re δ' m4 with
            | no => rw [er] at eo; cases eo
            | ex _ _ => rw [er] at eo; cases eo
            | ok y m5 =>
              rw [er] at eo
              have eo : R.ok (some y) m5 = R.ok o m3 := eo
              injection eo with e1 e2
              subst e1 e2
              intro yv H5 ρ5 F5 x5 M5 r5
              obtain ⟨M5h, hc5⟩ := M4h.hidden hc4 x5 M5
              have P5 := Post.on (x5.hide (L := L)) P4
              have e5 : ((lcRun f its (its.l.drop (i + 1)) m5).bind fun ys m => mkL mu (ad ++ [y] ++ ys) m) = ((lcRun f its (its.l.drop (i + 1)) m5).bind fun ys m2 => R.ok ((some y).toList ++ ys) m2).bind fun ys m => mkL mu (ad ++ ys) m := by
                rw [bind_bind]
                refine bind_ext fun a m => ?_
                rw [List.append_assoc]
                rfl
              rw [← e5] at P5
              have rd5 := ((rd.mono (x2.hide (L := L))).mono (x4.hide (L := L))).mono (x5.hide (L := L))
              have hl2 := rd.length
              refine ⟨av, hc5, by omega, ad ++ [y], av ++ [yv], m5, ρ5, F5, ?_, ?_, upd_same, rd5.append ⟨r5, trivial⟩, by rw [List.length_append, List.length_singleton]; omega, ?_⟩
              · rw [hide_upd]; exact ((x1.trans (x2.hide (L := L))).trans x4.hide).trans x5.hide
              · rw [hide_upd]; exact M5h
              · rw [hide_upd]; exact P5
    · exact P1.elim
  · have e : i = its.l.length := by omega
    subst e
    rw [List.drop_length] at P1
    unfold lcRun at P1
    split at P1
    · rename_i held
      refine .inl ⟨(RJ ρ' F' m' Hc on M1.unhide held _).2 (List.getElem?_eq_none (Nat.le_refl _)), ?_⟩
      have P2 : PostD g ρ' F' m' (hide L Hc) (mkL mu (ad ++ []) m') Q (WE W σ) := P1
      rw [List.append_nil] at P2
      have := (mkL_post (by omega) P2 M1 rd).2 L hide_self
      rw [upd_hide hc] at this
      exact this
    · exact P1.elim
end
end Dn

/-! Dn, part M: the check of expressions; it is enough. -/
namespace Dn
open PySem PySem.Spec PyProof.Rows L2

/-! ### keywords -/
theorem _root_.L2.PK.imp {X : Cx} {e : List Keyword} {t t' : TA} (h : PK X e t) (k : ∀ σ H Q, t' σ H Q → t σ H Q) : PK X e t' := ⟨fun pos pins s σ H Q I q => h.run pos pins s σ H Q I (k σ H Q q)⟩
def kwNames : List Keyword → Option (List Str)
  | [] => some []
  | ⟨some n, _, _⟩ :: l => (kwNames l).map (n :: ·)
  | ⟨none, _, _⟩ :: _ => none
theorem kw_ok {pos : Pos} {env : Env} : ∀ {l : List Keyword} {ks : List Str}, kwNames l = some ks → (backToKw pos (keywordEach l env)).all (·.1.isSome) = true ∧ (backToKw pos (keywordEach l env)).filterMap (·.1) = ks ∧ (backToKw pos (keywordEach l env)).any (·.1.isNone) = false
  | [], ks, h => by cases h; exact ⟨rfl, rfl, rfl⟩
  | ⟨some n, e, kp⟩ :: l, ks, h => by
    obtain ⟨ks', h1, rfl⟩ := Option.map_eq_some_iff.mp (show (kwNames l).map (n :: ·) = some ks from h)
    obtain ⟨a, b, c⟩ := kw_ok (pos := pos) (env := env) h1
    refine ⟨?_, ?_, ?_⟩
    · show (true && (backToKw pos (keywordEach l env)).all (·.1.isSome)) = true
      rw [a]; rfl
    · show n :: (backToKw pos (keywordEach l env)).filterMap (·.1) = _
      rw [b]
    · show (false || (backToKw pos (keywordEach l env)).any (·.1.isNone)) = false
      rw [c]; rfl
  | ⟨none, _, _⟩ :: _, _, h => by cases h
section
variable {g : Gn} {W : WX} {X : Cx} {T : Tb} {p : Pg} {lv : Nat} {cd : Cd}
theorem perm_get {ρ : Rho} {F : Hp} {k : Nat} {l : List D} {vs : List V} (r : RDs g ρ F k l vs) : ∀ (pm : List Nat), (∀ i ∈ pm, i < l.length) → RDs g ρ F k (pm.filterMap (l[·]?)) (pm.filterMap (vs[·]?))
  | [], _ => trivial
  | i :: pm, h => by
    have hi := h i List.mem_cons_self
    have e : l[i]? = some l[i] := List.getElem?_eq_getElem hi
    obtain ⟨v, e1, r1⟩ := r.get e
    rw [List.filterMap_cons, List.filterMap_cons, e, e1]
    exact ⟨r1, perm_get r pm fun j hj => h j (List.mem_cons_of_mem _ hj)⟩
theorem perm_len {α : Type} {l : List α} : ∀ (pm : List Nat), (∀ i ∈ pm, i < l.length) → (pm.filterMap (l[·]?)).length = pm.length
  | [], _ => rfl
  | i :: pm, h => by
    have hi := h i List.mem_cons_self
    have e : l[i]? = some l[i] := List.getElem?_eq_getElem hi
    rw [List.filterMap_cons, e]
    exact congrArg Nat.succ (perm_len pm fun j hj => h j (List.mem_cons_of_mem _ hj))
theorem code_kw (c : Cok g T p lv X W cd) {f np : Nat} {a : Addr} {fd : FuncData} {ps ks : List Str} {pm : List Nat} {pins : List (Addr × Obj)} {σ : L2.St} {H : Hp} {s : Shared} {Q : VK} {us ws : List Value} {vs zs : List V}
    (Fn : FnOk X.prog X.w X.K X.mg X.base (L2.CX X.prog X.w) (3 * lv + 2) a fd ps (fun vs H Q E => vs.length = ps.length ∧ ∃ ds m ρ F, MRel g ρ F m H ∧ RDs g ρ F m.length ds vs ∧ PostD g ρ F m H (callAt p lv f ds m) Q E))
    (hp : pm.length = ps.length) (hi : ∀ i ∈ pm, i < np + ks.length) (hb : KBn X.K fd ps np ks (permL pm) (permL pm))
    (I : Inv X pins σ H s) (r : Vals vs us) (rz : Vals zs ws) (l1 : vs.length = np) (l2 : zs.length = ks.length) {ds es : List D} {m : Mem} {ρ : Rho} {F : Hp} (M : MRel g ρ F m H) (rd : RDs g ρ F m.length ds vs) (re : RDs g ρ F m.length es zs)
    (h : PostD g ρ F m H (callAt p lv f (permL pm ds es) m) Q (WE W σ)) : codeAny (model X.prog X.w) X.A (.call (.ref a) ⟨us, ks.zip ws⟩) (wants (EP X pins σ Q) X.xe) s := by
  have r2 := hb.rel r rz
  have hi' : ∀ i ∈ pm, i < (ds ++ es).length := fun i q => by rw [List.length_append, rd.length, re.length, l1, l2]; exact hi i q
  have hi2 : ∀ i ∈ pm, i < (vs ++ zs).length := fun i q => by rw [List.length_append, l1, l2]; exact hi i q
  refine codeAny_mono (Fn.run X.A X.stack s H ⟨us, ks.zip ws⟩ (permL pm us ws) (permL pm vs zs) Q (WE W σ) (c.room.mono (by omega)) I.env0 (hb.to s us ws I.kIn (r.length.symm.trans l1) (rz.length.symm.trans l2)) r2
    ⟨(perm_len pm hi2).trans hp, _, m, ρ, F, M, perm_get (rd.append re) pm hi', h⟩) fun r s' hq => ?_
  cases r with
  | error e => exact c.tk e s' (XE.of_call I (fun _ _ _ h => h) hq)
  | ok fl =>
    cases fl with
    | ret u => exact I.after hq
    | next => exact False.elim hq
    | brk => exact False.elim hq
    | cont => exact False.elim hq
theorem run_kw (c : Cok g T p lv X W cd) {f np : Nat} {a : Addr} {fd : FuncData} {ps ks : List Str} {pm : List Nat} {pins : List (Addr × Obj)} {σ : L2.St} {H : Hp} {s : Shared} {Q : VK} {us ws : List Value} {vs zs : List V}
    (Fn : FnOk X.prog X.w X.K X.mg X.base (L2.CX X.prog X.w) (3 * lv + 2) a fd ps (fun vs H Q E => vs.length = ps.length ∧ ∃ ds m ρ F, MRel g ρ F m H ∧ RDs g ρ F m.length ds vs ∧ PostD g ρ F m H (callAt p lv f ds m) Q E))
    (hp : pm.length = ps.length) (hi : ∀ i ∈ pm, i < np + ks.length) (hb : KBn X.K fd ps np ks (permL pm) (permL pm))
    (I : Inv X pins σ H s) (r : Vals vs us) (rz : Vals zs ws) (l1 : vs.length = np) (l2 : zs.length = ks.length) {ds es : List D} {m : Mem} {ρ : Rho} {F : Hp} (M : MRel g ρ F m H) (rd : RDs g ρ F m.length ds vs) (re : RDs g ρ F m.length es zs)
    (h : PostD g ρ F m H (callAt p lv f (permL pm ds es) m) Q (WE W σ)) : wpAny (model X.prog X.w) X.A (call (.ref a) us (ks.zip ws)) (EP X pins σ Q) X.xe s := by
  have r2 := hb.rel r rz
  have hi' : ∀ i ∈ pm, i < (ds ++ es).length := fun i q => by rw [List.length_append, rd.length, re.length, l1, l2]; exact hi i q
  have hi2 : ∀ i ∈ pm, i < (vs ++ zs).length := fun i q => by rw [List.length_append, l1, l2]; exact hi i q
  refine wpAny_call (codeAny_mono (Fn.run X.A X.stack s H ⟨us, ks.zip ws⟩ (permL pm us ws) (permL pm vs zs) Q (WE W σ) (c.room.mono (by omega)) I.env0 (hb.to s us ws I.kIn (r.length.symm.trans l1) (rz.length.symm.trans l2)) r2
    ⟨(perm_len pm hi2).trans hp, _, m, ρ, F, M, perm_get (rd.append re) pm hi', h⟩) fun r s' hq => ?_)
  cases r with
  | error e => exact c.tk e s' (XE.of_call I (fun _ _ _ h => h) hq)
  | ok fl =>
    cases fl with
    | ret u => exact I.after hq
    | next => exact False.elim hq
    | brk => exact False.elim hq
    | cont => exact False.elim hq
theorem k_nil : PK X [] (rdA g W fun _ m => .ok [] m) := pk_nil.imp fun σ H Q ⟨δ, m, ρ, F, M, rs, P⟩ => P.val M trivial
theorem k_cons {n : Option Str} {kp : Pos} {e : Expr} {es : List Keyword} {ra : Sl → Mem → R D} {rl : Sl → Mem → R (List D)} (he : PE X e (rdE g W ra)) (hl : PK X es (rdA g W rl)) :
    PK X (⟨n, e, kp⟩ :: es) (rdA g W fun δ m => (ra δ m).bind fun x m => (rl δ m).bind fun xs m => .ok (x :: xs) m) := by
  refine (pk_cons he hl).imp fun σ H Q h => rdX.bind h fun δ d m ρ F v H' M rs r P => ?_
  exact ⟨δ, m, ρ, F, M, rs, P.bind fun l m2 vs H2 ρ2 F2 x2 M2 r2 P2 => P2.val M2 ⟨r.mono x2, r2⟩⟩
/-- how many values come -/
theorem e_callK (c : Cok g T p lv X W cd) {f np : Nat} {x : Str} {npos pos : Pos} {e : Expr} {es : List Expr} {kws : List Keyword} {ks : List Str} {pm : List Nat} {rl rk : Sl → Mem → R (List D)} (hf : T.fn f = some x) (hpm : T.kw f np ks = some pm) (hv : isGl cd x = true) (hd : nodb x = true)
    (hl : PA X (e :: es) (rdA g W rl)) (hk : PK X kws (rdA g W rk)) (hn : (e :: es).all noStar = true) (hks : kwNames kws = some ks) (h1 : ∀ δ m xs m', rl δ m = .ok xs m' → xs.length = np) (h2 : ∀ δ m xs m', rk δ m = .ok xs m' → xs.length = ks.length) :
    PE X (.Call (.Name x npos) (e :: es) kws pos) (rdE g W fun δ m => (rl δ m).bind fun xs m => (rk δ m).bind fun zs m => callAt p lv f (permL pm xs zs) m) := by
  obtain ⟨a, fd, ps, q1, q2, Fn, q3, q4, q5⟩ := c.callK f x np ks pm hf hpm
  refine ⟨fun pins s σ H Q I h => ?_⟩
  refine wpAny_Call_Name_kw (ld_glob I (c.glb hv) q1 ?_ (nodb_ok hd).1)
  obtain ⟨k1, k2, k3⟩ := kw_ok (pos := pos) (env := X.env) hks
  have h' : rdA g W rl σ H fun vs H1 => rdA g W rk σ H1 fun zs H2 => vs.length = np ∧ zs.length = ks.length ∧ ∃ ds es m ρ F, MRel g ρ F m H2 ∧ RDs g ρ F m.length ds vs ∧ RDs g ρ F m.length es zs ∧ PostD g ρ F m H2 (callAt p lv f (permL pm ds es) m) Q (WE W σ) := by
    obtain ⟨δ, m, ρ, F, M, rs, P⟩ := h
    dsimp only at P
    cases e1 : rl δ m with
    | no => rw [e1] at P; exact P.elim
    | ex z m' => rw [e1] at P; exact ⟨δ, m, ρ, F, M, rs, by rw [e1]; exact P⟩
    | ok xs m' =>
      rw [e1] at P
      refine ⟨δ, m, ρ, F, M, rs, ?_⟩
      rw [e1]
      intro vs H1 ρ1 F1 x1 M1 r1
      have P1 := Post.on x1 (show PostD g ρ F m H ((rk δ m').bind fun zs m => callAt p lv f (permL pm xs zs) m) Q (WE W σ) from P)
      cases e2 : rk δ m' with
      | no => rw [e2] at P1; exact P1.elim
      | ex z m2 => rw [e2] at P1; exact ⟨δ, m', ρ1, F1, M1, rs.mono x1, by rw [e2]; exact P1⟩
      | ok zs m2 =>
        rw [e2] at P1
        refine ⟨δ, m', ρ1, F1, M1, rs.mono x1, ?_⟩
        rw [e2]
        intro us H2 ρ2 F2 x2 M2 r2
        exact ⟨by rw [← r1.length]; exact h1 _ _ _ _ e1, by rw [← r2.length]; exact h2 _ _ _ _ e2, xs, zs, m2, ρ2, F2, M2, r1.mono x2, r2, Post.on x2 P1⟩
  rw [List.all_cons, Bool.and_eq_true] at hn
  refine PySem.W.callWith_KW (h₀ := X.base) I.ok.mod.kin q2 k1 (thn (hl.run pos pins s σ H _ I h') fun us s1 ⟨vs, H1, I1, r, qk⟩ => ?_) ?_ (star_cons hn.1)
  · refine thn (hk.run pos pins s1 σ H1 _ I1 qk) fun ws s2 ⟨zs, H2, I2, rz, l1, l2, ds, es', m, ρ, F, M, rd, re, q⟩ => ⟨I2.kIn, ?_⟩
    rw [k2]
    exact run_kw c Fn q3 q4 q5 I2 r rz l1 l2 M rd re q
  · rw [k3, Bool.or_false, star_cons hn.1]
    show (false || (backTo pos (starEach es X.env)).any (·.1)) = false
    rw [plain_any hn.2]
    rfl
theorem e_callK0 (c : Cok g T p lv X W cd) {f : Nat} {x : Str} {npos pos : Pos} {kws : List Keyword} {ks : List Str} {pm : List Nat} {rk : Sl → Mem → R (List D)} (hf : T.fn f = some x) (hpm : T.kw f 0 ks = some pm) (hv : isGl cd x = true) (hd : nodb x = true)
    (hk : PK X kws (rdA g W rk)) (hks : kwNames kws = some ks) (h2 : ∀ δ m xs m', rk δ m = .ok xs m' → xs.length = ks.length) :
    PE X (.Call (.Name x npos) [] kws pos) (rdE g W fun δ m => (R.ok [] m).bind fun xs m => (rk δ m).bind fun zs m => callAt p lv f (permL pm xs zs) m) := by
  obtain ⟨a, fd, ps, q1, q2, Fn, q3, q4, q5⟩ := c.callK f x 0 ks pm hf hpm
  refine ⟨fun pins s σ H Q I h => ?_⟩
  refine wpAny_Call_Name_kw (ld_glob I (c.glb hv) q1 ?_ (nodb_ok hd).1)
  obtain ⟨k1, k2, k3⟩ := kw_ok (pos := pos) (env := X.env) hks
  have h' : rdA g W rk σ H fun zs H2 => zs.length = ks.length ∧ ∃ es m ρ F, MRel g ρ F m H2 ∧ RDs g ρ F m.length es zs ∧ PostD g ρ F m H2 (callAt p lv f (permL pm [] es) m) Q (WE W σ) := by
    obtain ⟨δ, m, ρ, F, M, rs, P⟩ := h
    have P : PostD g ρ F m H ((rk δ m).bind fun zs m => callAt p lv f (permL pm [] zs) m) Q (WE W σ) := P
    cases e2 : rk δ m with
    | no => rw [e2] at P; exact P.elim
    | ex z m2 => rw [e2] at P; exact ⟨δ, m, ρ, F, M, rs, by rw [e2]; exact P⟩
    | ok zs m2 =>
      rw [e2] at P
      refine ⟨δ, m, ρ, F, M, rs, ?_⟩
      rw [e2]
      intro us H2 ρ2 F2 x2 M2 r2
      exact ⟨by rw [← r2.length]; exact h2 _ _ _ _ e2, zs, m2, ρ2, F2, M2, r2, Post.on x2 P⟩
  refine PySem.W.callWith_KW0 (h₀ := X.base) I.ok.mod.kin q2 k1 (thn (hk.run pos pins s σ H _ I h') fun ws s2 ⟨zs, H2, I2, rz, l2, es', m, ρ, F, M, re, q⟩ => ⟨I2.kIn, ?_⟩) ?_
  · rw [k2]
    exact run_kw c (us := []) (vs := []) Fn q3 q4 q5 I2 .nil rz rfl l2 M (ds := []) trivial re q
  · rw [k3, Bool.or_false]
    rfl
end
end Dn

/-! Dn, part Y: instances, classes, texts. -/
namespace Dn
open PySem PySem.Spec PyProof.Rows L2
section
variable {g : Gn} {W : WX} {X : Cx} {T : Tb} {p : Pg} {lv : Nat} {cd : Cd} {ρ : Rho} {F H : Hp} {m : Mem}
theorem str_beq_ne {a b : Str} (h : a ≠ b) : (a == b) = false := by simpa using h
theorem lookF_rp (inj : ∀ a b, g.fN a = g.fN b → a = b) {f : Nat} : ∀ {l : List (Nat × Dn.P)} {fs : List (Str × V)}, RPf g H l fs → OptR g H (lookF l f) (fs.lookup (g.fN f))
  | _, _, .nil => rfl
  | _, _, .cons (n := n) (x := x) h t => by
    unfold lookF
    rw [List.lookup_cons]
    by_cases e : n = f
    · subst e
      rw [if_pos rfl, beq_self_eq_true]
      exact ⟨_, rfl, h⟩
    · rw [if_neg e, str_beq_ne fun z => e (inj _ _ z).symm]
      exact lookF_rp inj t
def OptD (g : Gn) (ρ : Rho) (F : Hp) (k : Nat) (o : Option D) (w : Option V) : Prop := match o with
  | some d => ∃ v, w = some v ∧ RD g ρ F k d v
  | none => w = none
theorem lookF_rd (inj : ∀ a b, g.fN a = g.fN b → a = b) {k f : Nat} : ∀ {l : List (Nat × D)} {fs : List (Str × V)}, RDf g ρ F k l fs → OptD g ρ F k (lookF l f) (fs.lookup (g.fN f))
  | [], [], _ => rfl
  | (n, x) :: l, (s, v) :: fs, h => by
    obtain ⟨⟨h1, h2⟩, h3⟩ := h
    dsimp only at h1 h2
    subst h1
    unfold lookF
    rw [List.lookup_cons]
    by_cases e : n = f
    · subst e
      rw [if_pos rfl, beq_self_eq_true]
      exact ⟨v, rfl, h2⟩
    · rw [if_neg e, str_beq_ne fun z => e (inj _ _ z).symm]
      exact lookF_rd inj h3
  | [], _ :: _, h => h.elim
  | _ :: _, [], h => h.elim
theorem names_rp {x : Str} (h : ∀ j, g.fN j ≠ x) : ∀ {l : List (Nat × Dn.P)} {fs : List (Str × V)}, RPf g H l fs → fs.lookup x = none
  | _, _, .nil => rfl
  | _, _, .cons (n := n) _ t => by
    rw [List.lookup_cons, str_beq_ne fun z => h n z.symm]
    exact names_rp h t
theorem names_rd {x : Str} {k : Nat} (h : ∀ j, g.fN j ≠ x) : ∀ {l : List (Nat × D)} {fs : List (Str × V)}, RDf g ρ F k l fs → fs.lookup x = none
  | [], [], _ => rfl
  | (n, _) :: l, (s, v) :: fs, q => by
    obtain ⟨⟨h1, _⟩, h3⟩ := q
    dsimp only at h1
    rw [List.lookup_cons, h1, str_beq_ne fun z => h n z.symm]
    exact names_rd h h3
  | [], _ :: _, h => h.elim
  | _ :: _, [], h => h.elim
/-- an instance, read -/
theorem ins_look (M : MRel g ρ F m H) {d : D} {v : V} {c : Nat} (e : clsS d m = some c) (r : RD g ρ F m.length d v) :
    ∃ a dx fs, v = .ref a ∧ H a = some (.ins (g.cA c) dx fs) ∧ g.cs c = true ∧ ((∃ l, d = .p (.ins c l) ∧ RPf g F l fs) ∨ ∃ n l, d = .ref n ∧ m.get n = some (.ins c l) ∧ RDf g ρ F m.length l fs) := by
  unfold clsS at e
  split at e
  · cases e
    cases r with
    | ins z h t => exact ⟨_, _, _, rfl, M.sub.ins h, z, .inl ⟨_, rfl, t⟩⟩
  · rename_i n
    split at e
    · rename_i c' l q
      cases e
      obtain ⟨ho, rfl, h1, h2⟩ := M.look q r
      obtain ⟨dx, fs, rfl, h3, h4⟩ := rmo_ins h2
      exact ⟨_, dx, fs, rfl, h1, h3, .inr ⟨n, l, rfl, q, h4⟩⟩
    · cases e
  · cases e
theorem fldS_cls {gv : Gv} {f : Nat} {d : D} {Q : VK} {E : XK} (h : PostD g ρ F m H (fldS gv f d m) Q E) : ∃ c, clsS d m = some c ∧ gv.fk c f = true := by
  unfold fldS at h
  unfold clsS
  split at h
  · split at h
    · rename_i z; exact ⟨_, rfl, z⟩
    · exact h.elim
  · split at h
    · rename_i q
      split at h
      · rename_i z; exact ⟨_, by simp only [q], z⟩
      · exact h.elim
    · exact h.elim
  · exact h.elim
/-- o.f -/
theorem e_fld (c : Cok g T p lv X W cd) {a : Expr} {x : Str} {f : Nat} {pos : Pos} {ra : Sl → Mem → R D} (hx : T.fl f = some x) (ha : PE X a (rdE g W ra)) (hb : noSup a = true) :
    PE X (.Attribute a x pos) (rdE g W fun δ m => (ra δ m).bind fun d m => fldS p.gv f d m) := by
  have ex := c.fl f x hx
  subst ex
  refine (pe_fld ha (noSup_ok hb)).imp fun σ H Q h => rdX.bind h fun δ d m ρ F v H' M rs r P => ?_
  obtain ⟨k, e1, e2⟩ := fldS_cls P
  obtain ⟨a', dx, fs, rfl, h1, h2, h3⟩ := ins_look M e1 r
  rcases h3 with ⟨l, rfl, t⟩ | ⟨n, l, rfl, q, t⟩
  · unfold fldS at P
    simp only [if_pos e2] at P
    have := lookF_rp (f := f) c.kf.inj t
    split at P
    · rename_i y ey
      rw [ey] at this
      obtain ⟨v, w, rv⟩ := this
      exact ⟨a', _, dx, fs, v, rfl, h1, by rw [c.K]; exact c.kf.cls _ h2, c.fk _ _ e2, w, P.val M rv⟩
    · exact P.elim
  · unfold fldS at P
    simp only [q, if_pos e2] at P
    have := lookF_rd (f := f) c.kf.inj t
    split at P
    · rename_i y ey
      rw [ey] at this
      obtain ⟨v, w, rv⟩ := this
      exact ⟨a', _, dx, fs, v, rfl, h1, by rw [c.K]; exact c.kf.cls _ h2, c.fk _ _ e2, w, P.val M rv⟩
    · exact P.elim
theorem ins_names (M : MRel g ρ F m H) {d : D} {v : V} {c : Nat} {x : Str} (hx : ∀ j, g.fN j ≠ x) (e : clsS d m = some c) (r : RD g ρ F m.length d v) : ∃ a dx fs, v = .ref a ∧ H a = some (.ins (g.cA c) dx fs) ∧ g.cs c = true ∧ fs.lookup x = none := by
  obtain ⟨a, dx, fs, rfl, h1, h2, h3⟩ := ins_look M e r
  refine ⟨a, dx, fs, rfl, h1, h2, ?_⟩
  rcases h3 with ⟨l, _, t⟩ | ⟨n, l, _, _, t⟩
  · exact names_rp hx t
  · exact names_rd hx t
/-- the tree of a method call on one line -/
theorem meth_tree {o : Expr} {x : Str} {ap pos : Pos} {es : List Expr} {env : Env} (hb : noSup o = true) (hs : es.all noStar = true) (hl : es.length < 30) (hp : (ap.endLine == pos.line) = true) :
    eval (.Call (.Attribute o x ap) es [] pos) env = (do
      let ov ← eval o env
      standAt ap.atName
      let (f, first) ← holding [ov] (getMethod ov x (plainOf o env))
      callWith pos f first (backTo pos (starEach es env)) (backToKw pos (keywordEach [] env))) := by
  have hf : methodCallForm es.length (backTo pos (starEach es env)) (backToKw pos (keywordEach [] env)) = true := by
    have := few_ok (pos := pos) (env := env) hs hl
    unfold methodCallForm
    have e0 : backToKw pos (keywordEach [] env) = [] := rfl
    rw [e0] at this ⊢
    simpa using this
  have e1 : eval (.Call (.Attribute o x ap) es [] pos) env = (do
      let ov ← attributeBase o x env (eval o env)
      standAt ap.atName
      methodCall o x ap pos env ov (es.length + ([] : List Keyword).length) (backTo pos (starEach es env)) (backToKw pos (keywordEach [] env))) := by
    first
      | rfl
      | (rw [eval] <;> rfl)
  rw [e1, noSup_ok hb]
  congr 1
  funext ov
  congr 1
  funext _
  exact mcall_line hf hp
/-- o.m(..) -/
theorem meth_rd (c : Cok g T p lv X W cd) {x : Str} {n : Nat} {ra : Sl → Mem → R D} {rl : Sl → Mem → R (List D)} (hx : T.mn n = some x) {σ : L2.St} {H : Hp} {Q : VK} (h : rdE g W (fun δ m => (ra δ m).bind fun d m => match (clsS d m).bind fun c => p.gv.mt c n with
      | some f => (rl δ m).bind fun xs m => callAt p lv f (d :: xs) m
      | none => .no) σ H Q) : rdE g W ra σ H fun v H1 => ∃ a dx fs cn f fa d δ m ρ F, v = .ref a ∧ H1 a = some (.ins (g.cA cn) dx fs) ∧ g.cs cn = true ∧ fs.lookup x = none ∧ Meth X.K (g.cA cn) x fa ∧ Fnr g p lv X fa f ∧ MRel g ρ F m H1 ∧ RD g ρ F m.length d v ∧ RSl g ρ F m.length δ σ ∧ PostD g ρ F m H1 ((rl δ m).bind fun xs m => callAt p lv f (d :: xs) m) Q (WE W σ) := by
  refine rdX.bind h fun δ d m ρ F v H' M rs r P => ?_
  split at P
  · rename_i f ef
    obtain ⟨cn, e1, e2⟩ := Option.bind_eq_some_iff.mp ef
    obtain ⟨nx, fa, hm, Fn⟩ := c.mt cn n f x e2 hx
    obtain ⟨a', dx, fs, rfl, h1, h2, h3⟩ := ins_names M nx e1 r
    exact ⟨a', dx, fs, cn, f, fa, d, δ, m, ρ, F, rfl, h1, h2, h3, hm, Fn, M, r, rs, P⟩
  · exact P.elim
theorem e_meth (c : Cok g T p lv X W cd) {a e : Expr} {es : List Expr} {x : Str} {n : Nat} {ap pos : Pos} {ra : Sl → Mem → R D} {rl : Sl → Mem → R (List D)} (hx : T.mn n = some x) (ha : PE X a (rdE g W ra)) (hl : PA X (e :: es) (rdA g W rl)) (hs : (e :: es).all noStar = true) (hlen : (e :: es).length < 30) (hb : noSup a = true) (hp : (ap.endLine == pos.line) = true) :
    PE X (.Call (.Attribute a x ap) (e :: es) [] pos) (rdE g W fun δ m => (ra δ m).bind fun d m => match (clsS d m).bind fun c => p.gv.mt c n with
      | some f => (rl δ m).bind fun xs m => callAt p lv f (d :: xs) m
      | none => .no) := by
  refine ⟨fun pins s σ H Q I h => ?_⟩
  refine PySem.W.methodCall_KW (pl := plainOf a X.env) (thn (ha.run pins s σ H _ I (meth_rd c hx h)) fun u s1 ⟨v, H1, I1, rx, a', dx, fs, cn, f, fa, d, δ, m, ρ, F, ev, h1, h2, h3, hm, Fn, M, r, rs, P⟩ => ?_) (meth_tree hb hs hlen hp)
  subst ev
  cases (show u = Value.ref a' from rx)
  refine getmeth_ok I1 h1 (by rw [c.K]; exact c.kf.cls _ h2) hm h3 ?_
  have h2 : rdA g W rl σ H1 fun vs H2 => ∃ ds m ρ F, MRel g ρ F m H2 ∧ RDs g ρ F m.length ds (.ref a' :: vs) ∧ PostD g ρ F m H2 (callAt p lv f ds m) Q (WE W σ) :=
    ⟨δ, m, ρ, F, M, rs, P.bind fun xs m2 vs H2 ρ2 F2 x2 M2 r2 P2 => ⟨d :: xs, m2, ρ2, F2, M2, ⟨r.mono x2, r2⟩, P2⟩⟩
  rw [List.all_cons, Bool.and_eq_true] at hs
  exact PySem.W.callWith_K (first := [.ref a']) (h₀ := X.base) I1.ok.mod.kin hm.kp (thn (hl.run pos pins s1 σ H1 _ I1 h2) fun us s2 ⟨vs, H2, I2, rv, ds, m, ρ, F, M, rd, q⟩ => ⟨I2.kIn, run_own c Fn (us := .ref a' :: us) (vs := .ref a' :: vs) I2 (.cons rfl rv) M rd q⟩) (star_cons hs.1) (plain_any hs.2)
theorem e_meth0 (c : Cok g T p lv X W cd) {a : Expr} {x : Str} {n : Nat} {ap pos : Pos} {ra : Sl → Mem → R D} (hx : T.mn n = some x) (ha : PE X a (rdE g W ra)) (hb : noSup a = true) (hp : (ap.endLine == pos.line) = true) :
    PE X (.Call (.Attribute a x ap) [] [] pos) (rdE g W fun δ m => (ra δ m).bind fun d m => match (clsS d m).bind fun c => p.gv.mt c n with
      | some f => (R.ok [] m).bind fun xs m => callAt p lv f (d :: xs) m
      | none => .no) := by
  refine ⟨fun pins s σ H Q I h => ?_⟩
  refine PySem.W.methodCall_KW (pl := plainOf a X.env) (thn (ha.run pins s σ H _ I (meth_rd c (rl := fun _ m => .ok [] m) hx h)) fun u s1 ⟨v, H1, I1, rx, a', dx, fs, cn, f, fa, d, δ, m, ρ, F, ev, h1, h2, h3, hm, Fn, M, r, rs, P⟩ => ?_) (meth_tree hb rfl (by decide) hp)
  subst ev
  cases (show u = Value.ref a' from rx)
  refine getmeth_ok I1 h1 (by rw [c.K]; exact c.kf.cls _ h2) hm h3 ?_
  exact PySem.W.callWith_K0 (first := [.ref a']) I1.kIn hm.kp (run_own c Fn (us := [.ref a']) (vs := [.ref a']) I1 (.cons rfl .nil) M (ds := [d]) ⟨r, trivial⟩ P)
/-! ### properties -/
theorem e_prop (c : Cok g T p lv X W cd) {a : Expr} {x : Str} {n : Nat} {pos : Pos} {ra : Sl → Mem → R D} (hx : T.mn n = some x) (ha : PE X a (rdE g W ra)) (hb : noSup a = true) :
    PE X (.Attribute a x pos) (rdE g W fun δ m => (ra δ m).bind fun d m => match (clsS d m).bind fun c => p.gv.pr c n with
      | some f => (callAt p lv f [d] m).calm
      | none => .no) := by
  refine ⟨fun pins s σ H Q I h => ?_⟩
  have h' : rdE g W ra σ H fun v H1 => ∃ a dx fs cn f q fa d m ρ F, v = .ref a ∧ H1 a = some (.ins (g.cA cn) dx fs) ∧ g.cs cn = true ∧ PropOf X.K (g.cA cn) x q fa ∧ Fnr g p lv X fa f ∧ MRel g ρ F m H1 ∧ RD g ρ F m.length d v ∧ PostD g ρ F m H1 (callAt p lv f [d] m).calm Q (WE W σ) := by
    refine rdX.bind h fun δ d m ρ F v H' M rs r P => ?_
    split at P
    · rename_i f ef
      obtain ⟨cn, e1, e2⟩ := Option.bind_eq_some_iff.mp ef
      obtain ⟨q, fa, hm, Fn⟩ := c.pr cn n f x e2 hx
      obtain ⟨a', dx, fs, rfl, h1, h2⟩ := ins_at M e1 r
      exact ⟨a', dx, fs, cn, f, q, fa, d, m, ρ, F, rfl, h1, h2, hm, Fn, M, r, P⟩
    · exact P.elim
  refine attr_of (noSup_ok hb) (thn (ha.run pins s σ H _ I h') fun u s1 ⟨v, H1, I1, rx, a', dx, fs, cn, f, q, fa, d, m, ρ, F, ev, h1, h2, hp, Fn, M, r, P⟩ => ?_)
  subst ev
  cases (show u = Value.ref a' from rx)
  obtain ⟨mA, O, _⟩ := ins_get I1.hok h1
  obtain ⟨od, J, _⟩ := O.look
  obtain ⟨rest, hrec⟩ := hp.rec_
  have cl : Cls X.K (g.cA cn) := by rw [c.K]; exact c.kf.cls _ h2
  have hc : (PySem.W.clsIn X.K (g.cA cn)).isSome = true := by
    obtain ⟨cd, hc, _⟩ := PySem.W.any_some cl.hd
    rw [hc]
    rfl
  refine PySem.W.get_bind I1.kIn J (PySem.W.plainGet_of (cl.get x)).1 (PySem.W.findObj_data hc hp.at_ hp.get hp.tak) (PySem.W.plainGet_of (cl.get x)).2 (wpAny_call (PySem.W.prop_get (s := { s1 with toks := s1.toks + 1 }) I1.kIn hrec ?_))
  have I2 : Inv X pins σ H1 { s1 with toks := s1.toks + 1 } := I1.tok _
  have e0 : Env0 X.prog X.w X.K X.mg X.base X.A.in1 X.stack { s1 with toks := s1.toks + 1 } H1 := I2.env0.in1
  have P' : PostD g ρ F m H1 (callAt p lv f [d] m) Q (fun _ _ _ => False) := by
    cases q : callAt p lv f [d] m with
    | ok d m' => rw [q] at P; exact P
    | ex x m' => rw [q] at P; exact P.elim
    | no => rw [q] at P; exact P.elim
  refine codeAny_mono (Fn X.A.in1 X.stack _ H1 [.ref a'] [.ref a'] Q (fun _ _ _ => False) (c.room.in1.mono (by omega)) e0 (.cons rfl .nil) ⟨[d], m, ρ, F, M, ⟨r, trivial⟩, P'⟩) fun r s' hq => ?_
  cases r with
  | error e =>
    obtain ⟨_, _, _, _, _, _, _, _, _, _, _, _, z⟩ := hq
    exact z.elim
  | ok fl =>
    cases fl with
    | ret u =>
      obtain ⟨v, H', I3, rv, q3⟩ := I2.after hq
      show wpAny _ _ (handedOut u) _ _ _
      rw [PySem.W.handedOut_of (handed_of rv)]
      exact wpAny_pure ⟨v, H', I3, rv, q3⟩
    | next => exact False.elim hq
    | brk => exact False.elim hq
    | cont => exact False.elim hq
/-! ### classes as values -/
theorem e_ccon (c : Cok g T p lv X W cd) {y x : Str} {k n : Nat} {np pos : Pos} (hc : T.cn k = some y) (hx : T.cc n = some x) (hv : isGl cd y = true) (hd : nodb y = true) :
    PE X (.Attribute (.Name y np) x pos) (rdE g W fun _ m => match p.gv.cc k n with | some x => .ok (.p x) m | none => .no) := by
  obtain ⟨h1, h2⟩ := c.cn k y hc
  refine (ClX.pe_cval (pe_glob (c.glb hv) h1 (v := .ref (g.cA k)) rfl (nodb_ok hd).1) rfl).imp fun σ H Q ⟨δ, m, ρ, F, M, rs, P⟩ => ?_
  dsimp only at P
  split at P
  · rename_i z ez
    obtain ⟨mc, v, u, q1, q2, q3⟩ := c.cc k n x z ez hx
    exact ⟨_, mc, v, u, rfl, q1, q2, P.val M (q3 F)⟩
  · exact P.elim
theorem run_cmW (c : Cok g T p lv X W cd) {pins : List (Addr × Obj)} {σ : L2.St} {H : Hp} {s : Shared} {C fa q : Addr} {f : Nat} {Q : VK} {us : List Value} {vs : List V} (Fn : Fnr g p lv X fa f) (I : Inv X ((q, PySem.W.methodObj (.ref fa) (.ref C)) :: pins) σ H s)
    (r : Vals vs us) {ds : List D} {m : Mem} {ρ : Rho} {F : Hp} (M : MRel g ρ F m H) (rd : RDs g ρ F m.length ds (.ref C :: vs)) (h : PostD g ρ F m H (callAt p lv f ds m) Q (WE W σ)) : wpAny (model X.prog X.w) X.A (call (.ref q) us) (EP X pins σ Q) X.xe s := by
  have z : wpAny (model X.prog X.w) X.A (call (.ref q) us) (EP X ((q, PySem.W.methodObj (.ref fa) (.ref C)) :: pins) σ Q) X.xe s :=
    wpAny_call (PySem.W.method_call (ClX.pin_at I) (code_own c Fn (us := .ref C :: us) (vs := .ref C :: vs) I (.cons rfl r) M rd h))
  exact thn z fun _ _ y => ClX.unpinE y
/-- C.m(..), a classmethod -/
theorem e_smeth (c : Cok g T p lv X W cd) {y x : Str} {k n : Nat} {np ap pos : Pos} {e : Expr} {es : List Expr} {rl : Sl → Mem → R (List D)} (hc : T.cn k = some y) (hx : T.sn n = some x) (hv : isGl cd y = true) (hd : nodb y = true) (hl : PA X (e :: es) (rdA g W rl)) (hs : (e :: es).all noStar = true) (hlen : (e :: es).length < 30) (hp : (ap.endLine == pos.line) = true) :
    PE X (.Call (.Attribute (.Name y np) x ap) (e :: es) [] pos) (rdE g W fun δ m => match p.gv.sm k n with
      | some (f, true) => (rl δ m).bind fun xs m => callAt p lv f (.p (.cls k) :: xs) m
      | some (f, false) => (rl δ m).bind (callAt p lv f)
      | none => .no) := by
  obtain ⟨h1, h2⟩ := c.cn k y hc
  refine ⟨fun pins s σ H Q I ⟨δ, m, ρ, F, M, rs, P⟩ => ?_⟩
  dsimp only at P
  cases ef : p.gv.sm k n with
  | none => rw [ef] at P; exact P.elim
  | some fb =>
    obtain ⟨f, b⟩ := fb
    obtain ⟨mc, q, fa, q1, Fn, rfl, q2⟩ := c.sm k n f b x ef hx
    rw [ef] at P
    dsimp only at P
    refine PySem.W.methodCall_KW (pl := plainOf (.Name y np) X.env) (thn ((pe_glob (c.glb hv) h1 (v := .ref (g.cA k)) rfl (nodb_ok hd).1).run pins s σ H (fun v H1 => v = .ref (g.cA k) ∧ H1 = H) I ⟨rfl, rfl⟩) fun u s1 ⟨v, H1, I1, rx, e1, e2⟩ => ?_) (meth_tree rfl hs hlen hp)
    subst e1 e2
    cases (show u = Value.ref (g.cA k) from rx)
    refine ClX.getmethcm_ok I1 q1 q2 fun s2 I2 => ?_
    rw [List.all_cons, Bool.and_eq_true] at hs
    have h3 : rdA g W rl σ H1 fun vs H2 => ∃ ds m ρ F, MRel g ρ F m H2 ∧ RDs g ρ F m.length ds (.ref (g.cA k) :: vs) ∧ PostD g ρ F m H2 (callAt p lv f ds m) Q (WE W σ) :=
      ⟨δ, m, ρ, F, M, rs, P.bind fun xs m2 vs H2 ρ2 F2 x2 M2 r2 P2 => ⟨.p (.cls k) :: xs, m2, ρ2, F2, M2, ⟨RP.cls h2, r2⟩, P2⟩⟩
    refine ClX.callwith_cm I2 (ClX.base_none I1 (Nat.le_refl _)) q2.fi (thn (hl.run pos _ s2 σ H1 _ I2 h3) fun us s3 ⟨vs, H2, I3, rv, ds, m, ρ, F, M, rd, qq⟩ => ⟨⟨ClX.pin_at I3, I3.kIn⟩, ?_⟩) (star_cons hs.1) (plain_any hs.2)
    exact run_cmW c Fn I3 rv M rd qq
/-- the tree of a method call on one line, its arguments given by name -/
theorem meth_treeK {o : Expr} {x : Str} {ap pos : Pos} {kws : List Keyword} {ks : List Str} {env : Env} (hb : noSup o = true) (hs : kwNames kws = some ks) (hl : kws.length < 29) (hp : (ap.endLine == pos.line) = true) :
    eval (.Call (.Attribute o x ap) [] kws pos) env = (do
      let ov ← eval o env
      standAt ap.atName
      let (f, first) ← holding [ov] (getMethod ov x (plainOf o env))
      callWith pos f first (backTo pos (starEach [] env)) (backToKw pos (keywordEach kws env))) := by
  have hf : methodCallForm kws.length (backTo pos (starEach [] env)) (backToKw pos (keywordEach kws env)) = true := by
    unfold methodCallForm
    rw [(kw_ok (pos := pos) (env := env) hs).1]
    have e0 : backTo pos (starEach [] env) = [] := rfl
    rw [e0]
    show (true && true && decide (_ < 30)) = true
    rw [Bool.and_true, Bool.true_and]
    refine decide_eq_true ?_
    split <;> omega
  have e1 : eval (.Call (.Attribute o x ap) [] kws pos) env = (do
      let ov ← attributeBase o x env (eval o env)
      standAt ap.atName
      methodCall o x ap pos env ov (([] : List Expr).length + kws.length) (backTo pos (starEach [] env)) (backToKw pos (keywordEach kws env))) := by
    first
      | rfl
      | (rw [eval] <;> rfl)
  rw [e1, noSup_ok hb]
  congr 1
  funext ov
  congr 1
  funext _
  rw [List.length_nil, Nat.zero_add]
  exact mcall_line hf hp
/-- C.m(k=..), a classmethod, its arguments given by name -/
theorem e_smethK (c : Cok g T p lv X W cd) {y x : Str} {f k n : Nat} {np ap pos : Pos} {kws : List Keyword} {ks : List Str} {pm : List Nat} {rk : Sl → Mem → R (List D)} (hc : T.cn k = some y) (hx : T.sn n = some x) (hpm : T.kw f 1 ks = some pm) (hv : isGl cd y = true) (hd : nodb y = true)
    (hk : PK X kws (rdA g W rk)) (hks : kwNames kws = some ks) (h2 : ∀ δ m xs m', rk δ m = .ok xs m' → xs.length = ks.length) (hlen : kws.length < 29) (hp : (ap.endLine == pos.line) = true) :
    PE X (.Call (.Attribute (.Name y np) x ap) [] kws pos) (rdE g W fun δ m => match p.gv.sm k n with
      | some (f', true) => if f' = f then (rk δ m).bind fun zs m => callAt p lv f (permL pm [.p (.cls k)] zs) m else .no
      | _ => .no) := by
  obtain ⟨h1, h3⟩ := c.cn k y hc
  refine ⟨fun pins s σ H Q I ⟨δ, m, ρ, F, M, rs, P⟩ => ?_⟩
  dsimp only at P
  split at P
  · rename_i f' ef
    split at P
    · rename_i hf
      subst hf
      have h' : rdA g W rk σ H fun zs H2 => zs.length = ks.length ∧ ∃ es m ρ F, MRel g ρ F m H2 ∧ RDs g ρ F m.length es zs ∧ PostD g ρ F m H2 (callAt p lv f' (permL pm [.p (.cls k)] es) m) Q (WE W σ) := by
        cases e2 : rk δ m with
        | no => rw [e2] at P; exact P.elim
        | ex z m2 => rw [e2] at P; exact ⟨δ, m, ρ, F, M, rs, by rw [e2]; exact P⟩
        | ok zs m2 =>
          rw [e2] at P
          refine ⟨δ, m, ρ, F, M, rs, ?_⟩
          rw [e2]
          intro us H2 ρ2 F2 x2 M2 r2
          exact ⟨by rw [← r2.length]; exact h2 _ _ _ _ e2, zs, m2, ρ2, F2, M2, r2, Post.on x2 P⟩
      obtain ⟨mc, q, fa0, q1, _, _, q2⟩ := c.sm k n f' true x ef hx
      refine PySem.W.methodCall_KW (pl := plainOf (.Name y np) X.env) (thn ((pe_glob (c.glb hv) h1 (v := .ref (g.cA k)) rfl (nodb_ok hd).1).run pins s σ H (fun v H1 => v = .ref (g.cA k) ∧ H1 = H) I ⟨rfl, rfl⟩) fun u s1 ⟨v, H1, I1, rx, e1, e2⟩ => ?_) (meth_treeK rfl hks hlen hp)
      subst e1 e2
      cases (show u = Value.ref (g.cA k) from rx)
      obtain ⟨k1, k2, k3⟩ := kw_ok (pos := pos) (env := X.env) hks
      have hpl : ((backTo pos (starEach [] X.env)).any (·.1) || (backToKw pos (keywordEach kws X.env)).any (·.1.isNone)) = false := by rw [k3, Bool.or_false]; rfl
      cases ed : p.fd f' with
      | none =>
        have no : ∀ l m, callAt p lv f' l m = .no := fun l m => by
          cases lv with
          | zero => rfl
          | succ j =>
            show (match p.fd f' with | some d => runD (callAt p j) p.gv d l m | none => .no) = _
            rw [ed]
        refine ClX.getmethcm_ok I1 q1 q2 fun s2 I2 => ?_
        refine PySem.W.callWith_of hpl (PySem.W.keeps_M q2.fi) (evalArgs_kw2_nil k1 (thn (hk.run pos _ s2 σ H1 _ I2 h') fun ws s3 ⟨zs, H2, I3, rz, l2, es, m, ρ, F, M, re, qq⟩ => ⟨⟨ClX.pin_at I3, I3.kIn⟩, ?_⟩))
        rw [no] at qq
        exact qq.elim
      | some d =>
        obtain ⟨mc, q, fa, fd, ps, q1, q2, Fn, q3, q4, q5⟩ := c.smK k n f' x d ks pm ef hx ed hpm
        refine ClX.getmethcm_ok I1 q1 q2 fun s2 I2 => ?_
        refine PySem.W.callWith_of hpl (PySem.W.keeps_M q2.fi) (evalArgs_kw2_nil k1 (thn (hk.run pos _ s2 σ H1 _ I2 h') fun ws s3 ⟨zs, H2, I3, rz, l2, es, m, ρ, F, M, re, qq⟩ => ⟨⟨ClX.pin_at I3, I3.kIn⟩, ?_⟩))
        rw [k2]
        have z : ∀ q0, Inv X ((q0, PySem.W.methodObj (.ref fa) (.ref (g.cA k))) :: pins) σ H2 s3 → wpAny (model X.prog X.w) X.A (call (.ref q0) [] (ks.zip ws)) (EP X ((q0, PySem.W.methodObj (.ref fa) (.ref (g.cA k))) :: pins) σ Q) X.xe s3 := fun q0 J =>
          wpAny_call (PySem.W.method_call (ClX.pin_at J) (code_kw c (us := [.ref (g.cA k)]) (vs := [.ref (g.cA k)]) Fn q3 q4 q5 J (.cons rfl .nil) rz rfl l2 M (ds := [.p (.cls k)]) ⟨RP.cls h3, trivial⟩ re qq))
        exact thn (z _ I3) fun _ _ y => ClX.unpinE y
    · exact P.elim
  · exact P.elim
/-! ### new instances -/
/-- the objects of a new instance -/
theorem step_make {ρ : Rho} {F H : Hp} {m : Mem} (M : MRel g ρ F m H) {c : Nat} {x dx : Addr} (hc : g.cs c = true) (hx : H x = none) (hd : H dx = none) (ne : dx ≠ x) :
    ∃ ρ', Ext ρ F m H ρ' F (m.new (.ins c [])) (upd (upd H dx (.own x)) x (.ins (g.cA c) dx [])) ∧ MRel g ρ' F (m.new (.ins c [])) (upd (upd H dx (.own x)) x (.ins (g.cA c) dx [])) ∧ RD g ρ' F (m.new (.ins c [])).length (.ref m.length) (.ref x) := by
  have M1 : MRel g ρ F m (upd H dx (.own x)) := by
    refine ⟨fun a o e => ?_, fun n o e => ?_, M.inj⟩
    · have h := M.sub a o e
      have na : a ≠ dx := fun z => by
        subst z
        rcases h with h | ⟨_, _, h⟩ <;> (rw [hd] at h; cases h)
      rw [upd_ne na]; exact h
    · obtain ⟨f, ho, h1, h2⟩ := M.mem n o e
      have na : ρ n ≠ dx := fun z => by rw [z, hd] at h1; cases h1
      exact ⟨f, ho, by rw [upd_ne na]; exact h1, h2⟩
  have E1 : Ext ρ F m H ρ F m (upd H dx (.own x)) :=
    ⟨fun _ _ h => h, Nat.le_refl _, fun _ _ => rfl, fun _ h => h, fun n h l => absurd l.lt (Nat.not_lt.mpr h), fun a o h _ => by rw [upd_ne (ne_of_none h hd)]; exact h, fun a o h => ⟨o, by rw [upd_ne (ne_of_none h hd)]; exact h⟩, fun a o h => .inl h⟩
  have hx1 : upd H dx (.own x) x = none := by rw [upd_ne (Ne.symm ne)]; exact hx
  obtain ⟨x2, M2, r2⟩ := step_new (o := .ins c []) (ho := .ins (g.cA c) dx []) M1 hx1 ⟨⟨Nat.zero_le _, rfl, hc⟩, trivial⟩
  exact ⟨_, E1.trans x2, M2, r2⟩
theorem run_makeW (c : Cok g T p lv X W cd) {k f : Nat} {fa : Addr} {pins : List (Addr × Obj)} {σ : L2.St} {H : Hp} {s : Shared} {Q : VK} {us : List Value} {vs : List V} (hk : g.cs k = true) (Mk_ : Mk X.K (g.cA k) fa) (Fn : Fnr g p lv X fa f) (I : Inv X pins σ H s) (r : Vals vs us) {xs : List D} {m : Mem} {ρ : Rho} {F : Hp} (M : MRel g ρ F m H) (rd : RDs g ρ F m.length xs vs)
    (h : PostD g ρ F m H (makeS (callAt p lv) k f xs m) Q (WE W σ)) :
    wpAny (model X.prog X.w) X.A (call (.ref (g.cA k)) us) (EP X pins σ Q) X.xe s := by
  have I2 := Inv.made (C := g.cA k) I
  obtain ⟨ρ1, x1, M1, r1⟩ := step_make M (x := s.heap.objs.size + 1) (dx := s.heap.objs.size) hk (I.hok.fresh (Nat.le_succ _)) (I.hok.fresh (Nat.le_refl _)) (Nat.ne_of_lt (Nat.lt_succ_self _))
  have rd1 : RDs g ρ1 F (m.new (.ins k [])).length (.ref m.length :: xs) (.ref (s.heap.objs.size + 1) :: vs) := ⟨r1, RDs.mono x1 rd⟩
  have h1 : PostD g ρ1 F (m.new (.ins k [])) (upd (upd H s.heap.objs.size (.own (s.heap.objs.size + 1))) (s.heap.objs.size + 1) (.ins (g.cA k) s.heap.objs.size [])) (callAt p lv f (.ref m.length :: xs) (m.new (.ins k []))) (fun v H2 => v = .non ∧ Q (.ref (s.heap.objs.size + 1)) H2) (WE W σ) := by
    refine (Post.on x1 h).bind fun d m' v H' ρ' F' x2 M2 rr P => ?_
    split at P
    · cases rr
      exact ⟨rfl, P.val M2 (r1.mono x2)⟩
    · exact P.elim
  have r2 : Vals (V.ref (s.heap.objs.size + 1) :: vs) (Value.ref (s.heap.objs.size + 1) :: us) := .cons rfl r
  refine wpAny_call (make_map (f := fa) I.kIn Mk_.makes Mk_.init (beq_iff_eq.mp Mk_.fn) (codeAny_mono (Fn _ X.stack _ _ (Value.ref (s.heap.objs.size + 1) :: us) _ _ (WE W σ) ((c.room.mono (Nat.le_refl _) : Room (3 * lv + 2 + 1 + 1) X.A).mono (by omega : 3 * lv + 2 + 1 ≤ _) |>.make (g.cA k) us [])
    (I2.env0.make (g.cA k) us []) r2 ⟨_, _, ρ1, F, M1, rd1, h1⟩) fun r s' hq' => ?_))
  cases r with
  | error e => exact c.tk e s' (XE.of_call I2 (fun _ _ _ h => h) hq')
  | ok fl =>
    cases fl with
    | ret u =>
      obtain ⟨v, H', I3, rv, ev, q3⟩ := I2.after hq'
      subst ev
      exact ⟨rv, ⟨V.ref (s.heap.objs.size + 1), H', I3, rfl, q3⟩⟩
    | next => exact False.elim hq'
    | brk => exact False.elim hq'
    | cont => exact False.elim hq'
theorem make_args {k f : Nat} {rl : Sl → Mem → R (List D)} {σ : L2.St} {H : Hp} {Q : VK} (h : rdE g W (fun δ m => (rl δ m).bind fun xs m => makeS (callAt p lv) k f xs m) σ H Q) :
    rdA g W rl σ H fun vs H1 => ∃ xs m ρ F, MRel g ρ F m H1 ∧ RDs g ρ F m.length xs vs ∧ PostD g ρ F m H1 (makeS (callAt p lv) k f xs m) Q (WE W σ) :=
  rdX.bind h fun δ xs m ρ F vs H' M rs r P => ⟨xs, m, ρ, F, M, r, P⟩
/-- no star at the head; without arguments nothing is read -/
def Hn (rl : Sl → Mem → R (List D)) (es : List Expr) : Prop := match es with
  | [] => rl = fun _ m => .ok [] m
  | e :: _ => noStar e = true
/-- C(..): the call, the class at hand -/
theorem call_make (c : Cok g T p lv X W cd) {k f : Nat} {pos : Pos} {es : List Expr} {rl : Sl → Mem → R (List D)} (hl : PA X es (rdA g W rl)) (ef : p.gv.ini k = some f) (hn : Hn rl es) {pins : List (Addr × Obj)} {s : Shared} {σ : L2.St} {H : Hp} {Q : VK} (I : Inv X pins σ H s)
    (h : rdE g W (fun δ m => (rl δ m).bind fun xs m => makeS (callAt p lv) k f xs m) σ H Q) : wpAny (model X.prog X.w) X.A (callWith pos (.ref (g.cA k)) [] (backTo pos (starEach es X.env)) (backToKw pos (keywordEach [] X.env))) (EP X pins σ Q) X.xe s := by
  obtain ⟨hk, fa, Mk_, Fn⟩ := c.ini k f ef
  cases es with
  | nil =>
    have hn : rl = fun _ m => .ok [] m := hn
    subst hn
    obtain ⟨δ, m, ρ, F, M, rs, P⟩ := h
    exact PySem.W.callWith_K0 I.kIn Mk_.kp (run_makeW c (us := []) (vs := []) hk Mk_ Fn I .nil M (xs := []) trivial P)
  | cons e es =>
    have kk := thn (hl.run pos pins s σ H _ I (make_args h)) fun us s1 ⟨vs, H1, I1, r, xs, m, ρ, F, M, rd, q⟩ => (⟨I1.kIn, run_makeW c hk Mk_ Fn I1 r M rd q⟩ : X.K.In s1.heap ∧ wpAny (model X.prog X.w) X.A (call (.ref (g.cA k)) us) (EP X pins σ Q) X.xe s1)
    cases q : es.all noStar with
    | true => exact PySem.W.callWith_K (h₀ := X.base) I.ok.mod.kin Mk_.kp kk (star_cons hn) (plain_any q)
    | false => exact PySem.W.callWith_S2 (h₀ := X.base) (first := []) I.ok.mod.kin Mk_.kp kk (star_cons hn) (star_any' q)
theorem e_make (c : Cok g T p lv X W cd) {k : Nat} {y : Str} {np pos : Pos} {es : List Expr} {rl : Sl → Mem → R (List D)} (hc : T.cn k = some y) (hv : isGl cd y = true) (hd : nodb y = true) (hl : PA X es (rdA g W rl)) (hn : Hn rl es) :
    PE X (.Call (.Name y np) es [] pos) (rdE g W fun δ m => match p.gv.ini k with
      | some f => (rl δ m).bind fun xs m => makeS (callAt p lv) k f xs m
      | none => .no) := by
  obtain ⟨h1, h2⟩ := c.cn k y hc
  refine ⟨fun pins s σ H Q I h => ?_⟩
  cases ef : p.gv.ini k with
  | none =>
    obtain ⟨δ, m, ρ, F, M, rs, P⟩ := h
    rw [ef] at P
    exact P.elim
  | some f =>
    rw [ef] at h
    exact wpAny_Call_Name_kw (ld_glob I (c.glb hv) h1 (call_make c hl ef hn I h) (nodb_ok hd).1)
/-- cls(..), cls a local that holds the class -/
theorem e_makeV (c : Cok g T p lv X W cd) {i k : Nat} {y : Str} {np pos : Pos} {es : List Expr} {rl : Sl → Mem → R (List D)} (hi : cd.N[i]? = some y) (hv : isVis cd y = true) (hd : nodb y = true) (hl : PA X es (rdA g W rl)) (hn : Hn rl es) :
    PE X (.Call (.Name y np) es [] pos) (rdE g W fun δ m => match δ[i]?, p.gv.ini k with
      | some (some (.p (.cls c'))), some f => if c' = k then (rl δ m).bind fun xs m => makeS (callAt p lv) k f xs m else .no
      | _, _ => .no) := by
  refine ⟨fun pins s σ H Q I ⟨δ, m, ρ, F, M, rs, P⟩ => ?_⟩
  dsimp only at P
  split at P
  · rename_i c' f e1 ef
    split at P
    · rename_i e2
      subst e2
      obtain ⟨v, q1, q2⟩ := rs.get i _ e1
      cases q2 with
      | cls hk =>
        refine wpAny_Call_Name_kw (thn ((pe_var (i := i) (pos := np) (by rw [c.N]; exact hi) (c.vis hv) (nodb_ok hd).1 (nodb_ok hd).2).run pins s σ H (fun v H1 => v = .ref (g.cA c') ∧ H1 = H) I ⟨_, q1, rfl, rfl⟩) fun u s1 ⟨v, H1, I1, rx, e3, e4⟩ => ?_)
        subst e3 e4
        cases (show u = Value.ref (g.cA c') from rx)
        exact call_make c hl ef hn I1 ⟨δ, m, ρ, F, M, rs, P⟩
    · exact P.elim
  · exact P.elim
/-! ### texts -/
theorem e_fmt {a : Expr} {pos : Pos} {ra : Sl → Mem → R D} (ha : PE X a (rdE g W ra)) : PE X (.FormattedValue a (-1) none pos) (rdE g W fun δ m => (ra δ m).bind fmtS) := by
  refine (pe_fmt ha).imp fun σ H Q h => rdX.bind h fun δ d m ρ F v H' M rs r P => ?_
  unfold fmtS at P
  split at P
  · cases r with | str y hz => exact .inl ⟨_, rfl, hz, P.val M (RP.str _ hz)⟩
  · split at P
    · rename_i hz
      cases r
      exact .inr ⟨_, rfl, hz, P.val M (RP.str _ (int_text_fits hz))⟩
    · exact P.elim
  · exact P.elim
/-- one part of an f-text ahead of the others -/
theorem js_rd {ra : Sl → Mem → R D} {ts : List TE} {rj : Str → Sl → Mem → R D} (hr : ∀ acc, acc.length ≤ sizeLine → ∀ σ H Q, rdE g W (rj acc) σ H (fun x H1 => ∃ out, x = .str out ∧ Q out H1) → tJs ts acc σ H Q) {acc : Str} {σ : L2.St} {H : Hp} {Q : Str → Hp → Prop}
    (h : rdE g W (fun δ m => (ra δ m).bind fun x m => match addS acc x with | some acc => rj acc δ m | none => .no) σ H (fun x H1 => ∃ out, x = .str out ∧ Q out H1)) : tJs (rdE g W ra :: ts) acc σ H Q := by
  refine rdX.bind h fun δ d m ρ F v H' M rs r P => ?_
  unfold addS at P
  split at P
  · rename_i acc' ea
    split at ea
    · split at ea
      · rename_i hz
        cases ea
        cases r with | str y _ => exact ⟨_, rfl, hz, hr _ hz _ _ _ ⟨δ, m, ρ, F, M, rs, P⟩⟩
      · cases ea
    · cases ea
  · exact P.elim
theorem e_rev {a : Expr} {k : Nat} {p1 p2 p3 pos : Pos} {ra : Sl → Mem → R D} (ha : PE X a (rdE g W ra)) : PE X (.Subscript a (.Slice none none (some (.UnaryOp .USub (.Constant (.int 1) k p1) p2)) p3) pos) (rdE g W fun δ m => (ra δ m).bind revS) := by
  refine (pe_revL ha).imp fun σ H Q h => rdX.bind h fun δ d m ρ F v H' M rs r P => ?_
  unfold revS at P
  split at P
  · cases r with
    | lst hz h1 t => exact ⟨_, _, rfl, SqL.of (M.sub.lst h1), fun q hq => P.newLst (by rw [List.length_reverse]; exact hz) M (RPs.rev t) hq⟩
  · exact P.elim
end
end Dn

/-! Dn, part YD: dict comprehensions. -/
namespace Dn
open PySem PySem.Spec PyProof.Rows L2
section
variable {g : Gn} {W : WX} {X : Cx} {T' : Tb} {p : Pg} {lv : Nat} {cd : Cd} {F : Hp}
theorem RPk.len : ∀ {l : List (Dn.P × Dn.P)} {kvs : List (Key × V)}, RPk g F l kvs → l.length = kvs.length
  | _, _, .nil => rfl
  | _, _, .cons _ _ _ t => congrArg Nat.succ (RPk.len t)
theorem RPk.any {κ : Key} : ∀ {l : List (Dn.P × Dn.P)} {kvs : List (Key × V)}, RPk g F l kvs → (l.any fun kv => decide (keyP kv.1 = some κ)) = kvs.any fun kv => decide (kv.1 = κ)
  | _, _, .nil => rfl
  | _, _, @RPk.cons _ _ k x κ' v l vs e z r t => by
    rw [List.any_cons, List.any_cons, RPk.any t, e]
    congr 1
    by_cases h : κ' = κ <;> simp [h]
theorem RPk.map {κ : Key} {y : Dn.P} {u : V} (hy : RP g F y u) : ∀ {l : List (Dn.P × Dn.P)} {kvs : List (Key × V)}, RPk g F l kvs → RPk g F (l.map fun kv => if keyP kv.1 = some κ then (kv.1, y) else kv) (kvs.map fun kv => if kv.1 = κ then (kv.1, u) else kv)
  | _, _, .nil => .nil
  | _, _, @RPk.cons _ _ k x κ' v l vs e z r t => by
    rw [List.map_cons, List.map_cons]
    by_cases h : κ' = κ
    · subst h
      simp only [e, if_true]
      exact .cons e z hy (RPk.map hy t)
    · have : ¬ keyP k = some κ := fun q => h (by rw [e] at q; exact Option.some.inj q)
      rw [if_neg this, if_neg h]
      exact .cons e z r (RPk.map hy t)
theorem RPk.snoc {κ : Key} {k y : Dn.P} {u : V} (e : keyP k = some κ) (z : kOk k) (hy : RP g F y u) : ∀ {l : List (Dn.P × Dn.P)} {kvs : List (Key × V)}, RPk g F l kvs → RPk g F (l ++ [(k, y)]) (kvs ++ [(κ, u)])
  | _, _, .nil => .cons e z hy .nil
  | _, _, .cons e' z' r t => .cons e' z' r (RPk.snoc e z hy t)
theorem key_kOk {x : Dn.P} {v : V} (r : RP g F x v) {κ : Key} (e : keyP x = some κ) : kOk x := by
  cases r <;> first | exact True.intro | assumption | cases e
theorem putP_rel {l l' : List (Dn.P × Dn.P)} {kvs : List (Key × V)} {k y : Dn.P} {u w : V} (h : putP l false k y = some l') (r : RPk g F l kvs) (rk : RP g F k w) (ry : RP g F y u) : ∃ κ, w = kV κ ∧ RPk g F l' (putK kvs κ u) ∧ l'.length ≤ l.length + 1 := by
  unfold putP at h
  simp only at h
  cases e : keyP k with
  | none => rw [e] at h; cases h
  | some κ =>
    rw [e] at h
    simp only [Option.some.injEq] at h
    subst h
    refine ⟨κ, key_v e rk, ?_, ?_⟩
    · unfold putK
      rw [RPk.any r]
      split
      · exact RPk.map ry r
      · exact RPk.snoc e (key_kOk rk e) ry r
    · split
      · rw [List.length_map]; omega
      · rw [List.length_append, List.length_singleton]; omega
theorem rpk_up {F F1 : Hp} (s : Dn.Sub F F1) {l : List (Dn.P × Dn.P)} {kvs : List (Key × V)} (h : RPk g F l kvs) : RPk g F1 l kvs := RPk.up s h
/-- one turn's reading -/
def turnK (rc : Sl → Mem → R Bool) (rk rv : Sl → Mem → R D) (t : Dn.T) (δ : Sl) : D → Mem → R (Option (Dn.P × Dn.P)) := fun x m => (oR (asgT t x m δ) m).bind fun δ' m => (rc δ' m).bind fun k m => if k then (rk δ' m).bind fun y m => (rv δ' m).bind fun z m => pairS y z m else .ok none m
theorem e_dcm (c : Cok g T' p lv X W cd) {own : List (Str × Nat)} {t : Dn.T} {rt : Sl → Mem → R Its} {rc : Sl → Mem → R Bool} {rk rv : Sl → Mem → R D}
    (ho : ∀ i ∈ t.ixs, i ∈ own.map (·.2)) {σ : L2.St} {H : Hp} {Q : VK}
    (h : rdE g W (fun δ m => (rt δ m).bind fun its m => dcRun false (turnK rc rk rv t (wipeD δ (own.map (·.2)))) its its.l [] m) σ H Q) :
    tDc (rdIt g W rt) (rdG g t) (rdT g W0 rc) (rdE g W0 rk) (rdE g W0 rv) (own.map (·.2)) σ H Q := by
  refine rdX.bind h fun δ its m ρ F J H1 M rs RJ0 P => fun L hL => ?_
  obtain ⟨hline, RJ⟩ := RJ0
  generalize hf : turnK rc rk rv t (wipeD δ (own.map (·.2))) = f at P
  generalize hvs : own.map (·.2) = vs at *
  let Iv : Nat → Hp → Prop := fun i Hc => ∃ (ad : List (Dn.P × Dn.P)) (av : List (Key × V)) (m' : Mem) (ρ' : Rho) (F' : Hp), Ext ρ F m H1 ρ' F' m' (hide L Hc) ∧ MRel g ρ' F' m' (hide L Hc) ∧ Hc L = some (.dK av) ∧ RPk g F' ad av ∧ ad.length ≤ i ∧
    PostD g ρ' F' m' (hide L Hc) (dcRun false f its (its.l.drop i) ad m') Q (WE W σ)
  have iv0 : Iv 0 (upd H1 L (.dK [])) := by
    refine ⟨[], [], m, ρ, F, ?_, ?_, upd_same, .nil, Nat.le_refl _, ?_⟩
    · rw [hide_upd, hide_none hL]; exact Ext.refl
    · rw [hide_upd, hide_none hL]; exact M
    · rw [hide_upd, hide_none hL]; exact P
  refine ⟨fun i n Hc => n = its.l.length - i ∧ i ≤ its.l.length ∧ Iv i Hc, ⟨_, rfl, Nat.zero_le _, iv0⟩, ?_⟩
  rintro i n Hc ⟨rfl, hi', ad, av, m', ρ', F', x1, M1, hc, rd, hal, P1⟩
  have on : On ρ F m.length ρ' F' m' := On.refl.ext x1
  by_cases hlt : i < its.l.length
  · have hdrop : its.l.drop i = its.l[i] :: its.l.drop (i + 1) := List.drop_eq_getElem_cons hlt
    rw [hdrop] at P1
    unfold dcRun at P1
    split at P1
    · rename_i held
      obtain ⟨go, yl⟩ := (RJ ρ' F' m' Hc on M1.unhide held i).1 its.l[i] (List.getElem?_eq_getElem hlt)
      refine .inr ⟨go, Iv (i + 1), fun H' q => ⟨_, by omega, rfl, hlt, q⟩, fun xv H' y => ?_⟩
      obtain ⟨F2, x2, M2, r2⟩ := yl xv H' y
      obtain ⟨M2h, hc2⟩ := M1.hidden hc x2 M2
      have P2 := Post.on (x2.hide (L := L)) P1
      obtain ⟨o, m3, eo, P3⟩ := calm_post P2
      rw [← hf] at eo
      unfold turnK at eo
      cases ea : asgT t its.l[i] m' (wipeD δ vs) with
      | none => rw [ea] at eo; cases eo
      | some δ' =>
        rw [ea] at eo
        have eo : ((rc δ' m').bind fun k m => if k then (rk δ' m).bind fun y m => (rv δ' m).bind fun z m => pairS y z m else .ok none m) = .ok o m3 := eo
        have rs2 : RSl g ρ' F2 m'.length (wipeD δ vs) (wipe σ vs) := RSl.wipe ((rs.mono x1).mono (x2.hide (L := L))) vs
        refine ⟨its.l[i], wipeD δ vs, m', ρ', F2, δ', M2, r2, rs2, ea, fun σ2 rs3 same => ⟨wipe_same ho same, ?_⟩⟩
        cases ec : rc δ' m' with
        | no => rw [ec] at eo; cases eo
        | ex _ _ => rw [ec] at eo; cases eo
        | ok k m4 =>
          rw [ec] at eo
          have eo : (if k then (rk δ' m4).bind fun y m => (rv δ' m).bind fun z m => pairS y z m else .ok none m4) = .ok o m3 := eo
          refine ⟨δ', m', ρ', F2, M2, rs3, ?_⟩
          rw [ec]
          intro v H4 ρ4 F4 x4 M4 ev
          subst ev
          obtain ⟨M4h, hc4⟩ := M2h.hidden hc2 x4 M4
          have P4 := Post.on (x4.hide (L := L)) P3
          cases v with
          | false =>
            rw [if_neg (by simp)] at eo ⊢
            injection eo with e1 e2
            subst e1 e2
            exact ⟨ad, av, m4, ρ4, F4, (x1.trans (x2.hide (L := L))).trans x4.hide, M4h, hc4, RPk.up (x4.Sub) (RPk.up x2.Sub rd), by omega, P4⟩
          | true =>
            rw [if_pos rfl] at eo ⊢
            refine ⟨δ', m4, ρ4, F4, M4, rs3.mono x4, ?_⟩
            cases er : rk δ' m4 with
            | no => rw [er] at eo; cases eo
            | ex _ _ => rw [er] at eo; cases eo
            | ok y m5 =>
              rw [er] at eo
              have eo : ((rv δ' m5).bind fun z m => pairS y z m) = .ok o m3 := eo
              intro yv H5 ρ5 F5 x5 M5 r5
              obtain ⟨M5h, hc5⟩ := M4h.hidden hc4 x5 M5
              have P5 := Post.on (x5.hide (L := L)) P4
              refine ⟨δ', m5, ρ5, F5, M5, (rs3.mono x4).mono x5, ?_⟩
              cases ev : rv δ' m5 with
              | no => rw [ev] at eo; cases eo
              | ex _ _ => rw [ev] at eo; cases eo
              | ok z m6 =>
                rw [ev] at eo
                have eo : pairS y z m6 = .ok o m3 := eo
                intro zv H6 ρ6 F6 x6 M6 r6
                obtain ⟨M6h, hc6⟩ := M5h.hidden hc5 x6 M6
                have P6 := Post.on (x6.hide (L := L)) P5
                unfold pairS at eo
                split at eo
                · rename_i y' z'
                  injection eo with e1 e2
                  subst e1 e2
                  dsimp only at P6
                  split at P6
                  · rename_i ad' ead
                    have rd6 := RPk.up x6.Sub (RPk.up x5.Sub (RPk.up x4.Sub (RPk.up x2.Sub rd)))
                    obtain ⟨κ, hk, rp, hle⟩ := putP_rel ead rd6 (RP.up x6.Sub r5) r6
                    refine ⟨av, κ, hk, hc6, by have := RPk.len rd; omega, ad', putK av κ zv, m6, ρ6, F6, ?_, ?_, upd_same, rp, by omega, ?_⟩
                    · rw [hide_upd]; exact (((x1.trans (x2.hide (L := L))).trans x4.hide).trans x5.hide).trans x6.hide
                    · rw [hide_upd]; exact M6h
                    · rw [hide_upd]; exact P6
                  · exact P6.elim
                · cases eo
    · exact P1.elim
  · have e : i = its.l.length := by omega
    subst e
    rw [List.drop_length] at P1
    unfold dcRun at P1
    split at P1
    · rename_i held
      refine .inl ⟨(RJ ρ' F' m' Hc on M1.unhide held _).2 (List.getElem?_eq_none (Nat.le_refl _)), ?_⟩
      obtain ⟨x2, M2⟩ := step_pure (ho := .dK av) M1 (hide_self (L := L) (H := Hc))
      have := P1 (.ref L) _ _ _ x2 M2 (RP.dK (by omega) (.inl upd_same) (RPk.up x2.Sub rd))
      rw [upd_hide hc] at this
      exact this
    · exact P1.elim
end
end Dn

/-! Dn, part N: the check of expressions is enough. -/
namespace Dn
open PySem PySem.Spec PyProof.Rows L2
def noIf : Expr → Bool
  | .IfExp .. => false
  | _ => true
def restE (op : BoolOp) (y : Expr) (l : List Expr) (pos : Pos) : Expr := match l with
  | [] => y
  | _ :: _ => .BoolOp op (y :: l) pos
def blkB (cd : Cd) (scope : Scope) (own : List Nat) : Bool :=
  decide (scope.kind = .function) && scope.names.all (fun y => decide (scope.names.lookup y.1 = some y.2)) && own.all (fun i => (cd.N[i]?).isSome) &&
  scope.names.all (fun y => match y.2 with
    | .free => (match cd.sc.names.lookup y.1 with | some .cell => true | some .free => true | _ => false)
    | .local => (own.any fun i => decide (cd.N[i]? = some y.1)) || !decide (y.1 ∈ cd.N)
    | .cell => (own.any fun i => decide (cd.N[i]? = some y.1)) || !decide (y.1 ∈ cd.N)
    | _ => true)
def blkCd (cd : Cd) (scope : Scope) : Cd := ⟨cd.N, relS scope cd.sc, fun x => scope.names.lookup x == some .cell⟩
mutual
def chkE (T : Tb) (cd : Cd) : RE → Expr → Bool
  | .var i, e => match e with
    | .Name x _ => decide (cd.N[i]? = some x) && isVis cd x && nodb x
    | _ => false
  | .cst x, e => match e with
    | .Constant k _ _ => cstOk x k
    | _ => false
  | .glo n, e => match e with
    | .Name x _ => decide (T.gl n = some x) && isGl cd x && nodb x
    | _ => false
  | .tup l, e => match e with
    | .Tuple es _ _ => chkL T cd l es && decide (l.len ≤ 10000)
    | _ => false
  | .lst _ l, e => match e with
    | .List es _ => chkL T cd l es && decide (l.len ≤ 10000)
    | _ => false
  | .bin o a b, e => match e with
    | .BinOp x op y _ => decide (op = bO o) && chkE T cd a x && chkE T cd b y
    | _ => false
  | .neg a, e => match e with
    | .UnaryOp op x _ => decide (op = .USub) && chkE T cd a x
    | _ => false
  | .cmp o a b, e => match e with
    | .Compare x [op] [y] _ => decide (op = cO o) && chkE T cd a x && chkE T cd b y && noSet y
    | _ => false
  | .cmp2 o o' a b c, e => match e with
    | .Compare x [op, op'] [y, z] _ => decide (op = cO o) && decide (op' = cO o') && chkE T cd a x && chkE T cd b y && chkE T cd c z && noSet z
    | _ => false
  | .and a b, e => match e with
    | .BoolOp op (x :: y :: l) pos => decide (op = .And) && chkE T cd a x && noIf x && chkE T cd b (restE .And y l pos) && noIf (restE .And y l pos)
    | _ => false
  | .or a b, e => match e with
    | .BoolOp op (x :: y :: l) pos => decide (op = .Or) && chkE T cd a x && noIf x && chkE T cd b (restE .Or y l pos) && noIf (restE .Or y l pos)
    | _ => false
  | .not a, e => match e with
    | .UnaryOp op x _ => decide (op = .Not) && chkE T cd a x && noIf x
    | _ => false
  | .ite c a b, e => match e with
    | .IfExp x y z _ => chkE T cd c x && noIf x && chkE T cd a y && chkE T cd b z
    | _ => false
  | .isi a one l, e => match e with
    | .Call (.Name f _) [x, t] [] _ => decide (f = "isinstance") && isGl cd f && chkE T cd a x && noStar x && (match one with
      | true => (match l with | [c] => tysOk T cd [c] [t] | _ => false)
      | false => (match t with | .Tuple es _ _ => decide (l.length ≤ 100) && !l.isEmpty && tysOk T cd l es | _ => false))
    | _ => false
  | .ix a b, e => match e with
    | .Subscript x y _ => chkE T cd a x && chkE T cd b y && noSl y
    | _ => false
  | .sl a lo hi, e => match e with
    | .Subscript x (.Slice l h none _) _ => chkE T cd a x && chkO T cd lo l && chkO T cd hi h
    | _ => false
  | .call f l, e => match e with
    | .Call (.Name x _) es [] _ => decide (T.fn f = some x) && isGl cd x && nodb x && chkL T cd l es && (match es with | [] => true | a :: _ => noStar a)
    | _ => false
  | .callK f l kl pm, e => match e with
    | .Call (.Name x _) es kws _ => decide (T.fn f = some x) && isGl cd x && nodb x && chkL T cd l es && es.all noStar && l.plain && chkK T cd kl kws && kl.plain && (match kwNames kws with | some ks => decide (T.kw f l.len ks = some pm) && decide (kl.len = ks.length) | none => false)
    | _ => false
  | .bcl f l, e => match e with
    | .Call (.Name x _) (a :: es) [] _ => decide (x = Str.ofString (bfN f)) && isGl cd x && chkL T cd l (a :: es) && (a :: es).all noStar
    | _ => false
  | .bmt f a l, e => match e with
    | .Call (.Attribute o x ap) es [] pos => decide (x = Str.ofString (bmN f)) && chkE T cd a o && noSup o && chkL T cd l es && es.all noStar && decide (es.length < 30) && (ap.endLine == pos.line)
    | _ => false
  | .lc _ elt t it c own, e => match e with
    | .ListComp ee [⟨tg, iter, ifs, as⟩] scope _ => decide (as = 0) && chkI T cd it tg iter && blkB cd scope own && t.ixs.all (fun i => decide (i ∈ own)) && chkT (blkCd cd scope) t tg && chkC T (blkCd cd scope) c ifs && chkE T (blkCd cd scope) elt ee && noSet iter
    | _ => false
  | .frz a, e => chkE T cd a e && plainT e
  | .fld a f, e => match e with
    | .Attribute o x _ => decide (T.fl f = some x) && chkE T cd a o && noSup o
    | _ => false
  | .prop a n, e => match e with
    | .Attribute o x _ => decide (T.mn n = some x) && chkE T cd a o && noSup o
    | _ => false
  | .meth a n l, e => match e with
    | .Call (.Attribute o x ap) es [] pos => decide (T.mn n = some x) && chkE T cd a o && noSup o && chkL T cd l es && es.all noStar && decide (es.length < 30) && (ap.endLine == pos.line)
    | _ => false
  | .make k l, e => match e with
    | .Call (.Name y _) es [] _ => decide (T.cn k = some y) && isGl cd y && nodb y && chkL T cd l es && (match es with | [] => true | a :: _ => noStar a)
    | _ => false
  | .makeV i k l, e => match e with
    | .Call (.Name y _) es [] _ => decide (cd.N[i]? = some y) && isVis cd y && nodb y && chkL T cd l es && (match es with | [] => true | a :: _ => noStar a)
    | _ => false
  | .ccon k n, e => match e with
    | .Attribute (.Name y _) x _ => decide (T.cn k = some y) && decide (T.cc n = some x) && isGl cd y && nodb y
    | _ => false
  | .smeth k n l, e => match e with
    | .Call (.Attribute (.Name y _) x ap) (z :: es) [] pos => decide (T.cn k = some y) && decide (T.sn n = some x) && isGl cd y && nodb y && chkL T cd l (z :: es) && (z :: es).all noStar && decide ((z :: es).length < 30) && (ap.endLine == pos.line)
    | _ => false
  | .smethK f k n kl pm, e => match e with
    | .Call (.Attribute (.Name y _) x ap) [] kws pos => decide (T.cn k = some y) && decide (T.sn n = some x) && isGl cd y && nodb y && chkK T cd kl kws && kl.plain && (match kwNames kws with | some ks => decide (T.kw f 1 ks = some pm) && decide (kl.len = ks.length) | none => false) && decide (kws.length < 29) && (ap.endLine == pos.line)
    | _ => false
  | .fmt a, e => match e with
    | .FormattedValue x cv none _ => decide (cv = -1) && chkE T cd a x
    | _ => false
  | .fstr l, e => match e with
    | .JoinedStr (x :: y :: es) _ => chkL T cd l (x :: y :: es) && l.plain
    | _ => false
  | .rev a, e => match e with
    | .Subscript x (.Slice none none (some (.UnaryOp op (.Constant k _ _) _)) _) _ => decide (op = .USub) && cstOk (.int 1) k && chkE T cd a x
    | _ => false
  | .dcm t kx vx tg it c own, e => match e with
    | .DictComp ke ve [⟨tgx, iter, ifs, as⟩] scope _ => !t && decide (as = 0) && chkI T cd it tgx iter && blkB cd scope own && tg.ixs.all (fun i => decide (i ∈ own)) && chkT (blkCd cd scope) tg tgx && chkC T (blkCd cd scope) c ifs && chkE T (blkCd cd scope) kx ke && chkE T (blkCd cd scope) vx ve && noSet iter
    | _ => false
  | .wall, e => plainT e
def chkL (T : Tb) (cd : Cd) : RL → List Expr → Bool
  | .nil, es => es.isEmpty
  | .cons a l, es => match es with
    | e :: es => chkE T cd a e && noStar e && chkL T cd l es
    | [] => false
  | .star a l, es => match es with
    | .Starred e _ :: es => chkE T cd a e && chkL T cd l es
    | _ => false
def chkK (T : Tb) (cd : Cd) : RL → List Keyword → Bool
  | .nil, es => es.isEmpty
  | .cons a l, es => match es with
    | ⟨_, e, _⟩ :: es => chkE T cd a e && chkK T cd l es
    | [] => false
  | .star _ _, _ => false
def chkO (T : Tb) (cd : Cd) : RO → Option Expr → Bool
  | .none, o => o.isNone
  | .some a, o => match o with
    | some e => chkE T cd a e
    | none => false
def chkC (T : Tb) (cd : Cd) : RO → List Expr → Bool
  | .none, es => es.isEmpty
  | .some a, es => match es with
    | [e] => chkE T cd a e && noIf e
    | _ => false
def chkI (T : Tb) (cd : Cd) : RI → Expr → Expr → Bool
  | .seq a, _, e => chkE T cd a e
  | .rng a, _, e => match e with
    | .Call (.Name f _) [x] [] _ => decide (f = "range") && isGl cd f && chkE T cd a x && noStar x
    | _ => false
  | .rng2 a b, _, e => match e with
    | .Call (.Name f _) [x, y] [] _ => decide (f = "range") && isGl cd f && chkE T cd a x && noStar x && chkE T cd b y && noStar y
    | _ => false
  | .zip a b, tg, e => match e, tg with
    | .Call (.Name f _) [x, y] [] _, .Tuple _ _ _ => decide (f = "zip") && isGl cd f && chkE T cd a x && noStar x && chkE T cd b y && noStar y
    | _, _ => false
  | .enum a, tg, e => match e, tg with
    | .Call (.Name f _) [x] [] _, .Tuple _ _ _ => decide (f = "enumerate") && isGl cd f && chkE T cd a x && noStar x
    | _, _ => false
end
section
variable {g : Gn} {W : WX} {X : Cx} {T : Tb} {p : Pg} {lv : Nat} {cd : Cd}
theorem len_den {cl : Nat → List D → Mem → R D} {gv : Gv} : ∀ {l : RL} {δ : Sl} {m m' : Mem} {xs : List D}, l.plain = true → denL cl gv l δ m = .ok xs m' → xs.length = l.len
  | .nil, δ, m, m', xs, _, h => by unfold denL at h; cases h; rfl
  | .cons a l, δ, m, m', xs, hp, h => by
    unfold denL at h
    cases e : den cl gv a δ m with
    | no => rw [e] at h; cases h
    | ex _ _ => rw [e] at h; cases h
    | ok x m1 =>
      rw [e] at h
      have h : ((denL cl gv l δ m1).bind fun xs m => R.ok (x :: xs) m) = .ok xs m' := h
      cases e2 : denL cl gv l δ m1 with
      | no => rw [e2] at h; cases h
      | ex _ _ => rw [e2] at h; cases h
      | ok ys m2 =>
        rw [e2] at h
        cases h
        exact congrArg Nat.succ (len_den (l := l) hp e2)
  | .star _ _, _, _, _, _, hp, _ => by cases hp
/-- what is known of an expression -/
structure Ev (g : Gn) (p : Pg) (lv : Nat) (re : RE) (W : WX) (X : Cx) (e : Expr) : Prop where
  pe : PE X e (rdE g W (den (callAt p lv) p.gv re))
  pt : noIf e = true → PT X e (rdT g W fun δ m => (den (callAt p lv) p.gv re δ m).bind asB)
  pw : ∀ op l pos, e = .BoolOp op l pos → PW X e (rdT g W fun δ m => (den (callAt p lv) p.gv re δ m).bind asB)
theorem Ev.plain {re : RE} {e : Expr} (h : PE X e (rdE g W (den (callAt p lv) p.gv re))) (hp : plainT e = true) : Ev g p lv re W X e :=
  ⟨h, fun _ => t_val h hp, fun op l pos z => by subst z; cases hp⟩
theorem and3 {a b : Bool} (h : (a && b) = true) : a = true ∧ b = true := Bool.and_eq_true_iff.mp h
/-- the context of a comprehension's block -/
theorem Cok.blk (c : Cok g T p lv X W cd) {s : Shared} {H : Hp} {scope : Scope} {C : Addr} {cl : List (Str × Addr)} {fp : List Addr} : Cok g T p lv (X.blk s H scope (compEnvC scope cl C X.env) fp) W0 (blkCd cd scope) where
  K := c.K
  kf := c.kf
  N := c.N
  sc := by show relS scope X.env.scope = relS scope cd.sc; rw [c.sc]
  fn := rfl
  nd := c.nd
  calm := c.calm
  tk := fun u s' ⟨_, _, _, _, _, _, _, _, _, _, _, _, _, _, _, _, w⟩ => w
  room := c.room
  bl := c.bl
  call := c.call
  callK := c.callK
  gl := c.gl
  cn := c.cn
  fl := c.fl
  fk := c.fk
  mt := c.mt
  pr := c.pr
  ini := c.ini
  om := c.om
  one := c.one
  cc := c.cc
  smK := c.smK
  sm := c.sm
def ownS (cd : Cd) (own : List Nat) : List (Str × Nat) := own.map fun i => ((cd.N[i]?).getD ⟨#[]⟩, i)
theorem blkB_ok (c : Cok g T p lv X W cd) {scope : Scope} {own : List Nat} (h : blkB cd scope own = true) : BlkOk X.N X.env.scope scope (ownS cd own) := by
  unfold blkB at h
  obtain ⟨h, h4⟩ := and3 h
  obtain ⟨h, h3⟩ := and3 h
  obtain ⟨h1, h2⟩ := and3 h
  have ow : ∀ x : Str, (own.any fun i => decide (cd.N[i]? = some x)) = true → x ∈ (ownS cd own).map (·.1) := fun x hx => by
    obtain ⟨i, hi, e⟩ := List.any_eq_true.mp hx
    have e := of_decide_eq_true e
    refine List.mem_map.mpr ⟨((cd.N[i]?).getD ⟨#[]⟩, i), List.mem_map.mpr ⟨i, hi, rfl⟩, ?_⟩
    show (cd.N[i]?).getD ⟨#[]⟩ = x
    rw [e]; rfl
  refine ⟨of_decide_eq_true h1, fun y hy => of_decide_eq_true (List.all_eq_true.mp h2 y hy), fun q hq => ?_, fun y hy e => ?_, fun y hy e => ?_⟩
  · obtain ⟨i, hi, rfl⟩ := List.mem_map.mp hq
    have := List.all_eq_true.mp h3 i hi
    rw [c.N]
    show cd.N[i]? = some ((cd.N[i]?).getD ⟨#[]⟩)
    cases z : cd.N[i]? with
    | none => rw [z] at this; cases this
    | some v => rfl
  · have := List.all_eq_true.mp h4 y hy
    rw [e] at this
    dsimp only at this
    rw [c.sc]
    split at this
    · rename_i z; exact .inl z
    · rename_i z; exact .inr z
    · cases this
  · have := List.all_eq_true.mp h4 y hy
    rw [c.N]
    rcases e with e | e <;>
    · rw [e] at this
      dsimp only at this
      rcases Bool.or_eq_true_iff.mp this with z | z
      · exact .inl (ow _ z)
      · exact .inr (by simpa using z)
theorem ownS_snd (cd : Cd) (own : List Nat) : (ownS cd own).map (·.2) = own := by
  unfold ownS
  rw [List.map_map]
  exact List.map_id _
theorem fold_ok {iter : Expr} {env : Env} (h : noSet iter = true) : ∀ x, foldedSetIterable iter env x = pure x := by
  intro x
  cases iter <;> first | rfl | cases h
/-- a comprehension's parts -/
structure LcP (g : Gn) (p : Pg) (lv : Nat) (elt : RE) (t : Dn.T) (it : RI) (cnd : RO) (own : List Nat) (X : Cx) (W : WX) (ee tg iter : Expr) (ifs : List Expr) (scope : Scope) (ow : List (Str × Nat)) : Prop where
  owe : ow.map (·.2) = own
  pi : PI X tg iter (rdIt g W (denI (callAt p lv) p.gv it))
  ok : BlkOk X.N X.env.scope scope ow
  ixs : ∀ i ∈ t.ixs, i ∈ own
  pg : ∀ (s : Shared) (H : Hp) (C : Addr) (cl : List (Str × Addr)) (fp : List Addr), PG (X.blk s H scope (compEnvC scope cl C X.env) fp) tg (rdG g t)
  pt : ∀ (s : Shared) (H : Hp) (C : Addr) (cl : List (Str × Addr)) (fp : List Addr), PTs (X.blk s H scope (compEnvC scope cl C X.env) fp) ifs (rdT g W0 (denC (callAt p lv) p.gv cnd))
  pe : ∀ (s : Shared) (H : Hp) (C : Addr) (cl : List (Str × Addr)) (fp : List Addr), PE (X.blk s H scope (compEnvC scope cl C X.env) fp) ee (rdE g W0 (den (callAt p lv) p.gv elt))
  fs : ∀ x, foldedSetIterable iter X.env x = pure x
theorem lcP_mk (c : Cok g T p lv X W cd) {mu : Bool} {elt : RE} {t : Dn.T} {it : RI} {cnd : RO} {own : List Nat} {e : Expr} (h : chkE T cd (.lc mu elt t it cnd own) e = true)
    (hI : ∀ {tg iter}, chkI T cd it tg iter = true → PI X tg iter (rdIt g W (denI (callAt p lv) p.gv it)))
    (hC : ∀ {X' cd' ifs}, Cok g T p lv X' W0 cd' → chkC T cd' cnd ifs = true → PTs X' ifs (rdT g W0 (denC (callAt p lv) p.gv cnd)))
    (hE : ∀ {X' cd' ee}, Cok g T p lv X' W0 cd' → chkE T cd' elt ee = true → PE X' ee (rdE g W0 (den (callAt p lv) p.gv elt))) :
    ∃ ee tg iter ifs scope pos, e = .ListComp ee [⟨tg, iter, ifs, 0⟩] scope pos ∧ LcP g p lv elt t it cnd own X W ee tg iter ifs scope (ownS cd own) := by
  unfold chkE at h
  split at h
  · rename_i ee tg iter ifs as scope pos
    obtain ⟨h, h8⟩ := and3 h
    obtain ⟨h, h7⟩ := and3 h
    obtain ⟨h, h6⟩ := and3 h
    obtain ⟨h, h5⟩ := and3 h
    obtain ⟨h, h4⟩ := and3 h
    obtain ⟨h, h3⟩ := and3 h
    obtain ⟨h1, h2⟩ := and3 h
    have h1 := of_decide_eq_true h1
    subst h1
    exact ⟨ee, tg, iter, ifs, scope, pos, rfl, ownS_snd cd own, hI h2, blkB_ok c h3, fun i hi => of_decide_eq_true (List.all_eq_true.mp h4 i hi), fun s H C cl fp => g_ok c.blk h5, fun s H C cl fp => hC c.blk h6, fun s H C cl fp => hE c.blk h7, fold_ok h8⟩
  · cases h
theorem LcP.rd (c : Cok g T p lv X W cd) {mu : Bool} {elt : RE} {t : Dn.T} {it : RI} {cnd : RO} {own : List Nat} {ee tg iter : Expr} {ifs : List Expr} {scope : Scope} {ow : List (Str × Nat)} (L : LcP g p lv elt t it cnd own X W ee tg iter ifs scope ow) {σ : L2.St} {H : Hp} {Q : VK}
    (h : rdE g W (den (callAt p lv) p.gv (.lc mu elt t it cnd own)) σ H Q) : tLc (rdIt g W (denI (callAt p lv) p.gv it)) (rdG g t) (rdT g W0 (denC (callAt p lv) p.gv cnd)) (rdE g W0 (den (callAt p lv) p.gv elt)) (ow.map (·.2)) σ H Q := by
  refine e_lc c (mu := mu) (pos := ⟨0, 0, 0, 0⟩) L.pi L.ok (by rw [L.owe]; exact L.ixs) L.pg L.pt L.pe ?_
  rw [L.owe]
  exact h
theorem LcP.ev (c : Cok g T p lv X W cd) {mu : Bool} {elt : RE} {t : Dn.T} {it : RI} {cnd : RO} {own : List Nat} {ee tg iter : Expr} {ifs : List Expr} {scope : Scope} {pos : Pos} {ow : List (Str × Nat)} (L : LcP g p lv elt t it cnd own X W ee tg iter ifs scope ow) :
    PE X (.ListComp ee [⟨tg, iter, ifs, 0⟩] scope pos) (rdE g W (den (callAt p lv) p.gv (.lc mu elt t it cnd own))) :=
  (pe_lc c.calm c.nd L.pi L.ok L.pg L.pt L.pe L.fs).imp fun σ H Q h => L.rd c h
theorem nil_of {l : RL} (h : chkL T cd l [] = true) : l = .nil := by
  cases l with
  | nil => rfl
  | cons _ _ => unfold chkL at h; cases h
  | star _ _ => unfold chkL at h; cases h
def hnB : List Expr → Bool
  | [] => true
  | a :: _ => noStar a
theorem hn_of {l : RL} {es : List Expr} {gv : Gv} {cl : Nat → List D → Mem → R D} (h : chkL T cd l es = true) (k : hnB es = true) : Hn (denL cl gv l) es := by
  cases es with
  | nil =>
    have := nil_of h
    subst this
    rfl
  | cons e es => exact k
theorem cst_int {i : Int} {k : Const} (h : cstOk (.int i) k = true) : k = .int i := by
  cases k <;> first
    | (rw [of_decide_eq_true h])
    | cases h
theorem denJ_str {cl : Nat → List D → Mem → R D} {gv : Gv} : ∀ {l : RL} {acc : Str} {δ : Sl} {m m' : Mem} {d : D}, denJ cl gv l acc δ m = .ok d m' → ∃ s, d = .p (.str s)
  | .nil, acc, δ, m, m', d, h => by unfold denJ at h; cases h; exact ⟨_, rfl⟩
  | .cons e l, acc, δ, m, m', d, h => by
    unfold denJ at h
    cases q : den cl gv e δ m with
    | ok x m1 =>
      rw [q] at h
      have h : (match addS acc x with | some acc => denJ cl gv l acc δ m1 | none => .no) = .ok d m' := h
      split at h
      · exact denJ_str (l := l) h
      · cases h
    | ex _ _ => rw [q] at h; cases h
    | no => rw [q] at h; cases h
  | .star _ _, _, _, _, _, _, h => by unfold denJ at h; cases h
theorem wall_pe {e : Expr} : PE X e (rdE g W fun _ _ => .no) := ⟨fun pins s σ H Q I ⟨δ, m, ρ, F, M, rs, P⟩ => P.elim⟩
/-- a dict comprehension's parts -/
theorem dcm_mk (c : Cok g T p lv X W cd) {t : Bool} {kx vx : RE} {tg : Dn.T} {it : RI} {cnd : RO} {own : List Nat} {e : Expr} (h : chkE T cd (.dcm t kx vx tg it cnd own) e = true)
    (hI : ∀ {tg iter}, chkI T cd it tg iter = true → PI X tg iter (rdIt g W (denI (callAt p lv) p.gv it)))
    (hC : ∀ {X' cd' ifs}, Cok g T p lv X' W0 cd' → chkC T cd' cnd ifs = true → PTs X' ifs (rdT g W0 (denC (callAt p lv) p.gv cnd)))
    (hK : ∀ {X' cd' ee}, Cok g T p lv X' W0 cd' → chkE T cd' kx ee = true → PE X' ee (rdE g W0 (den (callAt p lv) p.gv kx)))
    (hV : ∀ {X' cd' ee}, Cok g T p lv X' W0 cd' → chkE T cd' vx ee = true → PE X' ee (rdE g W0 (den (callAt p lv) p.gv vx))) :
    PE X e (rdE g W (den (callAt p lv) p.gv (.dcm t kx vx tg it cnd own))) ∧ plainT e = true := by
  unfold chkE at h
  split at h
  · rename_i ke ve tgx iter ifs as scope pos
    obtain ⟨h, h10⟩ := and3 h
    obtain ⟨h, h9⟩ := and3 h
    obtain ⟨h, h8⟩ := and3 h
    obtain ⟨h, h7⟩ := and3 h
    obtain ⟨h, h6⟩ := and3 h
    obtain ⟨h, h5⟩ := and3 h
    obtain ⟨h, h4⟩ := and3 h
    obtain ⟨h, h3⟩ := and3 h
    obtain ⟨h1, h2⟩ := and3 h
    have h2 := of_decide_eq_true h2
    have h1 : t = false := by cases t <;> first | rfl | cases h1
    subst h1 h2
    refine ⟨(pe_dc c.calm c.nd (hI h3) (blkB_ok c h4) (fun s H C cl fp => g_ok c.blk h6) (fun s H C cl fp => hC c.blk h7) (fun s H C cl fp => hK c.blk h8) (fun s H C cl fp => hV c.blk h9) (fold_ok h10)).imp fun σ H Q h => ?_, rfl⟩
    refine e_dcm c (by rw [ownS_snd]; exact fun i hi => of_decide_eq_true (List.all_eq_true.mp h5 i hi)) ?_
    rw [ownS_snd]
    exact h
  · cases h
theorem plainT_noBool {e : Expr} (h : plainT e = true) : ∀ op l pos, e ≠ .BoolOp op l pos := fun op l pos z => by subst z; cases h
mutual
theorem sE : ∀ (re : RE) {X : Cx} {W : WX} {cd : Cd} (c : Cok g T p lv X W cd) {e : Expr}, chkE T cd re e = true → Ev g p lv re W X e
  | .var i, X, W, cd, c, e, h => by
    unfold chkE at h
    split at h
    · obtain ⟨h, h3⟩ := and3 h
      obtain ⟨h1, h2⟩ := and3 h
      refine .plain ?_ rfl
      exact e_var c (of_decide_eq_true h1) h2 h3
    · cases h
  | .cst x, X, W, cd, c, e, h => by
    unfold chkE at h
    split at h
    · refine .plain ?_ rfl
      exact e_cst h
    · cases h
  | .glo n, X, W, cd, c, e, h => by
    unfold chkE at h
    split at h
    · obtain ⟨h, h3⟩ := and3 h
      obtain ⟨h1, h2⟩ := and3 h
      refine .plain ?_ rfl
      exact e_glo c (of_decide_eq_true h1) h2 h3
    · cases h
  | .tup l, X, W, cd, c, e, h => by
    unfold chkE at h
    split at h
    · obtain ⟨h1, h2⟩ := and3 h
      refine .plain ?_ rfl
      exact e_tup (fun δ m xs m' e hp => by rw [len_den hp e]; exact Nat.le_trans (of_decide_eq_true h2) (by rw [PySem.sizeLine_eq]; decide)) (sL l c h1)
    · cases h
  | .lst mu l, X, W, cd, c, e, h => by
    unfold chkE at h
    split at h
    · obtain ⟨h1, h2⟩ := and3 h
      refine .plain ?_ rfl
      exact e_lst (fun δ m xs m' e hp => by rw [len_den hp e]; exact Nat.le_trans (of_decide_eq_true h2) (by rw [PySem.sizeLine_eq]; decide)) (sL l c h1)
    · cases h
  | .bin o a b, X, W, cd, c, e, h => by
    unfold chkE at h
    split at h
    · obtain ⟨h, h3⟩ := and3 h
      obtain ⟨h1, h2⟩ := and3 h
      have h1 := of_decide_eq_true h1
      subst h1
      refine .plain ?_ rfl
      exact e_bin c (sE a c h2).pe (sE b c h3).pe
    · cases h
  | .neg a, X, W, cd, c, e, h => by
    unfold chkE at h
    split at h
    · obtain ⟨h1, h2⟩ := and3 h
      have h1 := of_decide_eq_true h1
      subst h1
      refine .plain ?_ rfl
      exact e_neg (sE a c h2).pe
    · cases h
  | .cmp o a b, X, W, cd, c, e, h => by
    unfold chkE at h
    split at h
    · obtain ⟨h, h4⟩ := and3 h
      obtain ⟨h, h3⟩ := and3 h
      obtain ⟨h1, h2⟩ := and3 h
      have h1 := of_decide_eq_true h1
      subst h1
      refine ⟨?_, fun _ => ?_, fun _ _ _ z => by cases z⟩
      · exact e_cmp c (sE a c h2).pe (sE b c h3).pe h4
      · exact t_cmp c (sE a c h2).pe (sE b c h3).pe h4
    · cases h
  | .cmp2 o o' a b d, X, W, cd, c, e, h => by
    unfold chkE at h
    split at h
    · obtain ⟨h, h6⟩ := and3 h
      obtain ⟨h, h5⟩ := and3 h
      obtain ⟨h, h4⟩ := and3 h
      obtain ⟨h, h3⟩ := and3 h
      obtain ⟨h1, h2⟩ := and3 h
      have h1 := of_decide_eq_true h1
      have h2 := of_decide_eq_true h2
      subst h1 h2
      refine ⟨?_, fun _ => ?_, fun _ _ _ z => by cases z⟩
      · exact e_cmp2 c (sE a c h3).pe (sE b c h4).pe (sE d c h5).pe h6
      · exact t_cmp2 c (sE a c h3).pe (sE b c h4).pe (sE d c h5).pe h6
    · cases h
  | .and a b, X, W, cd, c, e, h => by
    unfold chkE at h
    split at h
    · rename_i op x y l pos
      obtain ⟨h, h5⟩ := and3 h
      obtain ⟨h, h4⟩ := and3 h
      obtain ⟨h, h3⟩ := and3 h
      obtain ⟨h1, h2⟩ := and3 h
      have h1 := of_decide_eq_true h1
      subst h1
      have ea := sE a c h2
      have eb := sE b c h4
      have kp : PE X (.BoolOp .And (y :: l) pos) (rdE g W (den (callAt p lv) p.gv b)) := by
        cases l with
        | nil => exact pe_one eb.pe
        | cons z l => exact eb.pe
      have kw : PW X (.BoolOp .And (y :: l) pos) (rdT g W fun δ m => (den (callAt p lv) p.gv b δ m).bind asB) := by
        cases l with
        | nil => exact pw_and1 (eb.pt h5)
        | cons z l => exact eb.pw _ _ _ rfl
      have w := t_and (pos := pos) (ea.pt h3) kw
      refine ⟨?_, fun _ => ?_, fun _ _ _ z => ?_⟩
      · exact e_and ea.pe kp
      · exact w.pt
      · exact w
    · cases h
  | .or a b, X, W, cd, c, e, h => by
    unfold chkE at h
    split at h
    · rename_i op x y l pos
      obtain ⟨h, h5⟩ := and3 h
      obtain ⟨h, h4⟩ := and3 h
      obtain ⟨h, h3⟩ := and3 h
      obtain ⟨h1, h2⟩ := and3 h
      have h1 := of_decide_eq_true h1
      subst h1
      have ea := sE a c h2
      have eb := sE b c h4
      have kp : PE X (.BoolOp .Or (y :: l) pos) (rdE g W (den (callAt p lv) p.gv b)) := by
        cases l with
        | nil => exact pe_one eb.pe
        | cons z l => exact eb.pe
      have kw : PW X (.BoolOp .Or (y :: l) pos) (rdT g W fun δ m => (den (callAt p lv) p.gv b δ m).bind asB) := by
        cases l with
        | nil => exact pw_or1 (eb.pt h5)
        | cons z l => exact eb.pw _ _ _ rfl
      have w := t_or (pos := pos) (ea.pt h3) kw
      refine ⟨?_, fun _ => ?_, fun _ _ _ z => ?_⟩
      · exact e_or ea.pe kp
      · exact w.pt
      · exact w
    · cases h
  | .not a, X, W, cd, c, e, h => by
    unfold chkE at h
    split at h
    · obtain ⟨h, h3⟩ := and3 h
      obtain ⟨h1, h2⟩ := and3 h
      have h1 := of_decide_eq_true h1
      subst h1
      have ea := sE a c h2
      refine ⟨?_, fun _ => ?_, fun _ _ _ z => by cases z⟩
      · exact e_not ea.pe
      · exact t_not (ea.pt h3)
    · cases h
  | .ite d a b, X, W, cd, c, e, h => by
    unfold chkE at h
    split at h
    · obtain ⟨h, h4⟩ := and3 h
      obtain ⟨h, h3⟩ := and3 h
      obtain ⟨h1, h2⟩ := and3 h
      refine ⟨?_, fun z => (by cases z), fun _ _ _ z => (by cases z)⟩
      exact e_ite ((sE d c h1).pt h2) (sE a c h3).pe (sE b c h4).pe
    · cases h
  | .isi a one l, X, W, cd, c, e, h => by
    unfold chkE at h
    split at h
    · rename_i f fp x t pos
      obtain ⟨h, h5⟩ := and3 h
      obtain ⟨h, h4⟩ := and3 h
      obtain ⟨h, h3⟩ := and3 h
      obtain ⟨h1, h2⟩ := and3 h
      have h1 := of_decide_eq_true h1
      subst h1
      refine .plain ?_ rfl
      split at h5
      · split at h5
        · exact e_isi1 c h2 (sE a c h3).pe h4 h5
        · cases h5
      · split at h5
        · obtain ⟨h5, h7⟩ := and3 h5
          obtain ⟨h5, h6⟩ := and3 h5
          exact e_isiT c h2 (sE a c h3).pe h4 (fun z => by subst z; cases h6) (of_decide_eq_true h5) h7
        · cases h5
    · cases h
  | .ix a b, X, W, cd, c, e, h => by
    unfold chkE at h
    split at h
    · obtain ⟨h, h3⟩ := and3 h
      obtain ⟨h1, h2⟩ := and3 h
      refine .plain ?_ rfl
      exact e_ix c (sE a c h1).pe (sE b c h2).pe h3
    · cases h
  | .sl a lo hi, X, W, cd, c, e, h => by
    unfold chkE at h
    split at h
    · obtain ⟨h, h3⟩ := and3 h
      obtain ⟨h1, h2⟩ := and3 h
      refine .plain ?_ rfl
      exact e_sl c (sE a c h1).pe (sO lo c h2) (sO hi c h3)
    · cases h
  | .call f l, X, W, cd, c, e, h => by
    unfold chkE at h
    split at h
    · rename_i x np es pos
      obtain ⟨h, h5⟩ := and3 h
      obtain ⟨h, h4⟩ := and3 h
      obtain ⟨h, h3⟩ := and3 h
      obtain ⟨h1, h2⟩ := and3 h
      refine .plain ?_ rfl
      cases es with
      | nil =>
        have : l = .nil := by
          cases l with
          | nil => rfl
          | cons _ _ => unfold chkL at h4; cases h4
          | star _ _ => unfold chkL at h4; cases h4
        subst this
        exact e_call0 c (of_decide_eq_true h1) h2 h3
      | cons a es => exact e_call c (of_decide_eq_true h1) h2 h3 (sL l c h4) h5
    · cases h
  | .callK f l kl pm, X, W, cd, c, e, h => by
    unfold chkE at h
    split at h
    · rename_i x np es kws pos
      obtain ⟨h, h9⟩ := and3 h
      obtain ⟨h, h8⟩ := and3 h
      obtain ⟨h, h7⟩ := and3 h
      obtain ⟨h, h6⟩ := and3 h
      obtain ⟨h, h5⟩ := and3 h
      obtain ⟨h, h4⟩ := and3 h
      obtain ⟨h, h3⟩ := and3 h
      obtain ⟨h1, h2⟩ := and3 h
      refine .plain ?_ rfl
      split at h9
      · rename_i ks eks
        obtain ⟨h9, h10⟩ := and3 h9
        have h9 := of_decide_eq_true h9
        have h10 := of_decide_eq_true h10
        cases es with
        | nil =>
          have : l = .nil := by
            cases l with
            | nil => rfl
            | cons _ _ => unfold chkL at h4; cases h4
            | star _ _ => unfold chkL at h4; cases h4
          subst this
          exact e_callK0 c (of_decide_eq_true h1) h9 h2 h3 (sK kl c h7) eks fun δ m xs m' q => (len_den h8 q).trans h10
        | cons a es => exact e_callK c (of_decide_eq_true h1) h9 h2 h3 (sL l c h4) (sK kl c h7) h5 eks (fun δ m xs m' q => len_den h6 q) fun δ m xs m' q => (len_den h8 q).trans h10
      · cases h9
    · cases h
  | .bcl f l, X, W, cd, c, e, h => by
    unfold chkE at h
    split at h
    · obtain ⟨h, h4⟩ := and3 h
      obtain ⟨h, h3⟩ := and3 h
      obtain ⟨h1, h2⟩ := and3 h
      have h4' := h4
      rw [List.all_cons] at h4'
      refine .plain ?_ rfl
      exact e_bcl c (of_decide_eq_true h1) h2 (sL l c h3) (and3 h4').1 (and3 h4').2
    · cases h
  | .bmt f a l, X, W, cd, c, e, h => by
    unfold chkE at h
    split at h
    · rename_i o x ap es pos
      obtain ⟨h, h7⟩ := and3 h
      obtain ⟨h, h6⟩ := and3 h
      obtain ⟨h, h5⟩ := and3 h
      obtain ⟨h, h4⟩ := and3 h
      obtain ⟨h, h3⟩ := and3 h
      obtain ⟨h1, h2⟩ := and3 h
      refine .plain ?_ rfl
      cases es with
      | nil =>
        rw [nil_of h4]
        exact e_bmt0 c (of_decide_eq_true h1) (sE a c h2).pe h3 h7
      | cons y es => exact e_bmt c (of_decide_eq_true h1) (sE a c h2).pe (sL l c h4) h5 (of_decide_eq_true h6) h3 h7
    · cases h
  | .lc mu elt t it cnd own, X, W, cd, c, e, h => by
    obtain ⟨ee, tg, iter, ifs, scope, pos, rfl, L⟩ := lcP_mk c h (fun q => sI it c q) (fun c' q => sC cnd c' q) (fun c' q => (sE elt c' q).pe)
    exact .plain (L.ev c) rfl
  | .frz a, X, W, cd, c, e, h => by
    unfold chkE at h
    obtain ⟨h1, h2⟩ := and3 h
    refine .plain ?_ h2
    exact e_frz (sE a c h1).pe
  | .fld a f, X, W, cd, c, e, h => by
    unfold chkE at h
    split at h
    · obtain ⟨h, h3⟩ := and3 h
      obtain ⟨h1, h2⟩ := and3 h
      refine .plain ?_ rfl
      exact e_fld c (of_decide_eq_true h1) (sE a c h2).pe h3
    · cases h
  | .prop a n, X, W, cd, c, e, h => by
    unfold chkE at h
    split at h
    · obtain ⟨h, h3⟩ := and3 h
      obtain ⟨h1, h2⟩ := and3 h
      refine .plain ?_ rfl
      exact e_prop c (of_decide_eq_true h1) (sE a c h2).pe h3
    · cases h
  | .meth a n l, X, W, cd, c, e, h => by
    unfold chkE at h
    split at h
    · rename_i o x ap es pos
      obtain ⟨h, h7⟩ := and3 h
      obtain ⟨h, h6⟩ := and3 h
      obtain ⟨h, h5⟩ := and3 h
      obtain ⟨h, h4⟩ := and3 h
      obtain ⟨h, h3⟩ := and3 h
      obtain ⟨h1, h2⟩ := and3 h
      refine .plain ?_ rfl
      cases es with
      | nil =>
        rw [nil_of h4]
        exact e_meth0 c (of_decide_eq_true h1) (sE a c h2).pe h3 h7
      | cons y es => exact e_meth c (of_decide_eq_true h1) (sE a c h2).pe (sL l c h4) h5 (of_decide_eq_true h6) h3 h7
    · cases h
  | .make k l, X, W, cd, c, e, h => by
    unfold chkE at h
    split at h
    · rename_i y np es pos
      obtain ⟨h, h5⟩ := and3 h
      obtain ⟨h, h4⟩ := and3 h
      obtain ⟨h, h3⟩ := and3 h
      obtain ⟨h1, h2⟩ := and3 h
      refine .plain ?_ rfl
      exact e_make c (of_decide_eq_true h1) h2 h3 (sL l c h4) (hn_of h4 (by cases es <;> exact h5))
    · cases h
  | .makeV i k l, X, W, cd, c, e, h => by
    unfold chkE at h
    split at h
    · rename_i y np es pos
      obtain ⟨h, h5⟩ := and3 h
      obtain ⟨h, h4⟩ := and3 h
      obtain ⟨h, h3⟩ := and3 h
      obtain ⟨h1, h2⟩ := and3 h
      refine .plain ?_ rfl
      exact e_makeV c (of_decide_eq_true h1) h2 h3 (sL l c h4) (hn_of h4 (by cases es <;> exact h5))
    · cases h
  | .ccon k n, X, W, cd, c, e, h => by
    unfold chkE at h
    split at h
    · obtain ⟨h, h4⟩ := and3 h
      obtain ⟨h, h3⟩ := and3 h
      obtain ⟨h1, h2⟩ := and3 h
      refine .plain ?_ rfl
      exact e_ccon c (of_decide_eq_true h1) (of_decide_eq_true h2) h3 h4
    · cases h
  | .smeth k n l, X, W, cd, c, e, h => by
    unfold chkE at h
    split at h
    · obtain ⟨h, h8⟩ := and3 h
      obtain ⟨h, h7⟩ := and3 h
      obtain ⟨h, h6⟩ := and3 h
      obtain ⟨h, h5⟩ := and3 h
      obtain ⟨h, h4⟩ := and3 h
      obtain ⟨h, h3⟩ := and3 h
      obtain ⟨h1, h2⟩ := and3 h
      refine .plain ?_ rfl
      exact e_smeth c (of_decide_eq_true h1) (of_decide_eq_true h2) h3 h4 (sL l c h5) h6 (of_decide_eq_true h7) h8
    · cases h
  | .smethK f k n kl pm, X, W, cd, c, e, h => by
    unfold chkE at h
    split at h
    · obtain ⟨h, h9⟩ := and3 h
      obtain ⟨h, h8⟩ := and3 h
      obtain ⟨h, h7⟩ := and3 h
      obtain ⟨h, h6⟩ := and3 h
      obtain ⟨h, h5⟩ := and3 h
      obtain ⟨h, h4⟩ := and3 h
      obtain ⟨h, h3⟩ := and3 h
      obtain ⟨h1, h2⟩ := and3 h
      refine .plain ?_ rfl
      split at h7
      · rename_i ks eks
        obtain ⟨h7, h10⟩ := and3 h7
        have h10 := of_decide_eq_true h10
        exact e_smethK c (of_decide_eq_true h1) (of_decide_eq_true h2) (of_decide_eq_true h7) h3 h4 (sK kl c h5) eks (fun δ m xs m' q => (len_den h6 q).trans h10) (of_decide_eq_true h8) h9
      · cases h7
    · cases h
  | .fmt a, X, W, cd, c, e, h => by
    unfold chkE at h
    split at h
    · obtain ⟨h1, h2⟩ := and3 h
      have h1 := of_decide_eq_true h1
      subst h1
      refine .plain ?_ rfl
      exact e_fmt (sE a c h2).pe
    · cases h
  | .fstr l, X, W, cd, c, e, h => by
    unfold chkE at h
    split at h
    · obtain ⟨h1, h2⟩ := and3 h
      refine .plain ?_ rfl
      obtain ⟨ts, j1, j2⟩ := sJ l c h2 h1
      refine (pe_joined j1).imp fun σ H Q ⟨δ, m, ρ, F, M, rs, P⟩ => j2 Str.empty (Nat.zero_le _) σ H _ ⟨δ, m, ρ, F, M, rs, ?_⟩
      have P : PostD g ρ F m H (denJ (callAt p lv) p.gv l Str.empty δ m) Q (WE W σ) := P
      cases q : denJ (callAt p lv) p.gv l Str.empty δ m with
      | no => rw [q] at P; exact P.elim
      | ex x m' => rw [q] at P; exact P
      | ok d m' =>
        rw [q] at P
        obtain ⟨z, rfl⟩ := denJ_str q
        intro v H' ρ' F' x1 M1 r1
        have r1' := r1
        cases r1 with | str _ _ => exact ⟨z, rfl, P _ _ _ _ x1 M1 r1'⟩
    · cases h
  | .rev a, X, W, cd, c, e, h => by
    unfold chkE at h
    split at h
    · rename_i k _ _ _ _ _
      obtain ⟨h, h3⟩ := and3 h
      obtain ⟨h1, h2⟩ := and3 h
      have h1 := of_decide_eq_true h1
      subst h1
      refine .plain ?_ rfl
      rw [cst_int h2]
      exact e_rev (sE a c h3).pe
    · cases h
  | .dcm t kx vx tg it cnd own, X, W, cd, c, e, h => by
    obtain ⟨h1, h2⟩ := dcm_mk c h (fun q => sI it c q) (fun c' q => sC cnd c' q) (fun c' q => (sE kx c' q).pe) (fun c' q => (sE vx c' q).pe)
    exact .plain h1 h2
  | .wall, X, W, cd, c, e, h => by
    unfold chkE at h
    refine .plain ?_ h
    exact wall_pe
theorem sJ : ∀ (l : RL) {X : Cx} {W : WX} {cd : Cd} (c : Cok g T p lv X W cd) {es : List Expr}, l.plain = true → chkL T cd l es = true → ∃ ts, PJ X es ts ∧ ∀ acc, acc.length ≤ sizeLine → ∀ σ H Q, rdE g W (denJ (callAt p lv) p.gv l acc) σ H (fun x H1 => ∃ out, x = .str out ∧ Q out H1) → tJs ts acc σ H Q
  | .nil, X, W, cd, c, es, hp, h => by
    unfold chkL at h
    cases es with
    | nil => exact ⟨[], .nil, fun acc ha σ H Q ⟨δ, m, ρ, F, M, rs, P⟩ => by
        obtain ⟨out, e, q⟩ := P (.str acc) H ρ F Ext.refl M (RP.str _ ha)
        cases e
        exact q⟩
    | cons _ _ => cases h
  | .cons a l, X, W, cd, c, es, hp, h => by
    unfold chkL at h
    split at h
    · obtain ⟨h, h3⟩ := and3 h
      obtain ⟨h1, h2⟩ := and3 h
      obtain ⟨ts, j1, j2⟩ := sJ l c hp h3
      exact ⟨_, .cons (sE a c h1).pe j1, fun acc ha σ H Q q => js_rd (rj := denJ (callAt p lv) p.gv l) j2 q⟩
    · cases h
  | .star _ _, X, W, cd, c, es, hp, h => by cases hp
theorem sL : ∀ (l : RL) {X : Cx} {W : WX} {cd : Cd} (c : Cok g T p lv X W cd) {es : List Expr}, chkL T cd l es = true → PA X es (rdA g W (denL (callAt p lv) p.gv l))
  | .nil, X, W, cd, c, es, h => by
    unfold chkL at h
    cases es with
    | nil => exact a_nil
    | cons _ _ => cases h
  | .cons a l, X, W, cd, c, es, h => by
    unfold chkL at h
    split at h
    · obtain ⟨h, h3⟩ := and3 h
      obtain ⟨h1, h2⟩ := and3 h
      exact a_cons (sE a c h1).pe (sL l c h3) h2
    · cases h
  | .star a l, X, W, cd, c, es, h => by
    unfold chkL at h
    split at h
    · obtain ⟨h1, h2⟩ := and3 h
      exact a_star c (sE a c h1).pe (sL l c h2)
    · cases h
theorem sK : ∀ (l : RL) {X : Cx} {W : WX} {cd : Cd} (c : Cok g T p lv X W cd) {es : List Keyword}, chkK T cd l es = true → PK X es (rdA g W (denL (callAt p lv) p.gv l))
  | .nil, X, W, cd, c, es, h => by
    unfold chkK at h
    cases es with
    | nil => exact k_nil
    | cons _ _ => cases h
  | .cons a l, X, W, cd, c, es, h => by
    unfold chkK at h
    split at h
    · obtain ⟨h1, h2⟩ := and3 h
      exact k_cons (sE a c h1).pe (sK l c h2)
    · cases h
  | .star _ _, X, W, cd, c, es, h => by
    unfold chkK at h
    cases h
theorem sO : ∀ (o : RO) {X : Cx} {W : WX} {cd : Cd} (c : Cok g T p lv X W cd) {e : Option Expr}, chkO T cd o e = true → L2.PO X e (rdO g W (denO (callAt p lv) p.gv o))
  | .none, X, W, cd, c, e, h => by
    unfold chkO at h
    cases e with
    | none => exact o_none
    | some _ => cases h
  | .some a, X, W, cd, c, e, h => by
    unfold chkO at h
    split at h
    · exact o_some (sE a c h).pe
    · cases h
theorem sC : ∀ (o : RO) {X : Cx} {W : WX} {cd : Cd} (c : Cok g T p lv X W cd) {es : List Expr}, chkC T cd o es = true → PTs X es (rdT g W (denC (callAt p lv) p.gv o))
  | .none, X, W, cd, c, es, h => by
    unfold chkC at h
    cases es with
    | nil =>
      exact ⟨fun pins s σ H Q I ⟨δ, m, ρ, F, M, rs, P⟩ => pts_nil.run pins s σ H Q I (P.val M rfl)⟩
    | cons _ _ => cases h
  | .some a, X, W, cd, c, es, h => by
    unfold chkC at h
    split at h
    · obtain ⟨h1, h2⟩ := and3 h
      exact pts_one ((sE a c h1).pt h2)
    · cases h
theorem sI : ∀ (o : RI) {X : Cx} {W : WX} {cd : Cd} (c : Cok g T p lv X W cd) {tg e : Expr}, chkI T cd o tg e = true → PI X tg e (rdIt g W (denI (callAt p lv) p.gv o))
  | .seq a, X, W, cd, c, tg, e, h => by
    unfold chkI at h
    exact i_seq c (sE a c h).pe
  | .rng a, X, W, cd, c, tg, e, h => by
    unfold chkI at h
    split at h
    · obtain ⟨h, h4⟩ := and3 h
      obtain ⟨h, h3⟩ := and3 h
      obtain ⟨h1, h2⟩ := and3 h
      have h1 := of_decide_eq_true h1
      subst h1
      exact i_rng c h2 (sE a c h3).pe h4
    · cases h
  | .rng2 a b, X, W, cd, c, tg, e, h => by
    unfold chkI at h
    split at h
    · obtain ⟨h, h6⟩ := and3 h
      obtain ⟨h, h5⟩ := and3 h
      obtain ⟨h, h4⟩ := and3 h
      obtain ⟨h, h3⟩ := and3 h
      obtain ⟨h1, h2⟩ := and3 h
      have h1 := of_decide_eq_true h1
      subst h1
      exact i_rng2 c h2 (sE a c h3).pe h4 (sE b c h5).pe h6
    · cases h
  | .zip a b, X, W, cd, c, tg, e, h => by
    unfold chkI at h
    split at h
    · obtain ⟨h, h6⟩ := and3 h
      obtain ⟨h, h5⟩ := and3 h
      obtain ⟨h, h4⟩ := and3 h
      obtain ⟨h, h3⟩ := and3 h
      obtain ⟨h1, h2⟩ := and3 h
      have h1 := of_decide_eq_true h1
      subst h1
      exact i_zip c h2 (sE a c h3).pe h4 (sE b c h5).pe h6
    · cases h
  | .enum a, X, W, cd, c, tg, e, h => by
    unfold chkI at h
    split at h
    · obtain ⟨h, h4⟩ := and3 h
      obtain ⟨h, h3⟩ := and3 h
      obtain ⟨h1, h2⟩ := and3 h
      have h1 := of_decide_eq_true h1
      subst h1
      exact i_enum c h2 (sE a c h3).pe h4
    · cases h
end
end
end Dn

/-! Dn, part O: statements. -/
namespace Dn
open PySem PySem.Spec PyProof.Rows L2
def PostS (g : Gn) (ρ : Rho) (F : Hp) (m : Mem) (H : Hp) (r : S) (D : Ends) (W : WX) : Prop := match r with
  | .ok f δ m' => ∀ σ H' ρ' F', Ext ρ F m H ρ' F' m' H' → MRel g ρ' F' m' H' → RSl g ρ' F' m'.length δ σ → (match f with
    | .nx => D.nx σ H'
    | .br => D.bk σ H'
    | .ct => D.ct σ H'
    | .rt d => ∀ v, RD g ρ' F' m'.length d v → D.rt v H')
  | .ex x δ m' => ∀ σ cls dd H' ρ' F', Ext ρ F m H ρ' F' m' H' → MRel g ρ' F' m' H' → RSl g ρ' F' m'.length δ σ → RX g F' x cls dd H' → W cls dd σ H'
  | .no => False
def rdS (g : Gn) (W : WX) (r : Sl → Mem → S) : TS := fun D σ H => ∃ δ m ρ F, MRel g ρ F m H ∧ RSl g ρ F m.length δ σ ∧ PostS g ρ F m H (r δ m) D W
section
variable {g : Gn} {W : WX} {X : Cx} {T : Tb} {p : Pg} {lv : Nat} {cd : Cd} {ρ ρ1 : Rho} {F F1 H H1 : Hp} {m m1 : Mem} {D : Ends}
theorem PostS.on {r : S} (a : Ext ρ F m H ρ1 F1 m1 H1) (h : PostS g ρ F m H r D W) : PostS g ρ1 F1 m1 H1 r D W := by
  cases r with
  | ok f δ m' => exact fun σ H' ρ' F' x M rs => h σ H' ρ' F' (a.trans x) M rs
  | ex x δ m' => exact fun σ cls dd H' ρ' F' e M rs q => h σ cls dd H' ρ' F' (a.trans e) M rs q
  | no => exact h.elim
theorem PostS.next {δ : Sl} {σ : L2.St} (h : PostS g ρ F m H (.ok .nx δ m) D W) (M : MRel g ρ F m H) (rs : RSl g ρ F m.length δ σ) : D.nx σ H := h σ H ρ F Ext.refl M rs
/-- an expression ahead -/
theorem PostS.to {α γ : Type} {rel : Rho → Hp → Nat → α → γ → Prop} {r : R α} {δ : Sl} {f : α → Mem → S} {Q : γ → Hp → Prop} {σ : L2.St} (rs : RSl g ρ F m.length δ σ) (h : PostS g ρ F m H (r.toS δ f) D W)
    (k : ∀ d m' v H' ρ' F', Ext ρ F m H ρ' F' m' H' → MRel g ρ' F' m' H' → RSl g ρ' F' m'.length δ σ → rel ρ' F' m'.length d v → PostS g ρ' F' m' H' (f d m') D W → Q v H') : Post g rel ρ F m H r Q (WE W σ) := by
  cases r with
  | ok d m' => exact fun v H' ρ' F' x M r => k d m' v H' ρ' F' x M (rs.mono x) r (PostS.on x h)
  | ex x m' => exact fun cls dd H' ρ' F' e M q => h σ cls dd H' ρ' F' e M (rs.mono e) q
  | no => exact h.elim
theorem rdS.to {α γ : Type} {rel : Rho → Hp → Nat → α → γ → Prop} {ra : Sl → Mem → R α} {f : α → Sl → Mem → S} {Q : γ → Hp → Prop} {σ : L2.St} {H : Hp} (h : rdS g W (fun δ m => (ra δ m).toS δ fun d m => f d δ m) D σ H)
    (k : ∀ δ d m ρ F v H', MRel g ρ F m H' → RSl g ρ F m.length δ σ → rel ρ F m.length d v → PostS g ρ F m H' (f d δ m) D W → Q v H') : rdX g rel W ra σ H Q := by
  obtain ⟨δ, m, ρ, F, M, rs, P⟩ := h
  exact ⟨δ, m, ρ, F, M, rs, PostS.to rs P fun d m' v H' ρ' F' x M' rs' r P' => k δ d m' ρ' F' v H' M' rs' r P'⟩
def noComp : Expr → Bool
  | .ListComp .. => false
  | .SetComp .. => false
  | .DictComp .. => false
  | _ => true
theorem sw_none {e : Expr} {t : Option Expr} {l : Nat} {env : Env} (h : noComp e = true) : swapsWith e t l env = pure false := by cases e <;> first | rfl | cases h
theorem sw_tgt {e t : Expr} {l : Nat} {env : Env} (h : (match t with | .Name .. => false | _ => true) = true) : swapsWithSole [t] e l env = pure false := by
  show swapsWith e (some t) l env = pure false
  cases t <;> first | (exact absurd h Bool.false_ne_true) | (cases e <;> rfl)
/-! ### sequences -/
theorem b_nil : PSs X [] (rdS g W fun δ m => .ok .nx δ m) := pss_nil.imp fun D σ H ⟨δ, m, ρ, F, M, rs, P⟩ => P.next M rs
theorem b_cons {s : Stmt} {l : List Stmt} {ra rb : Sl → Mem → S} (h1 : PS X s (rdS g W ra)) (h2 : PSs X l (rdS g W rb)) :
    PSs X (s :: l) (rdS g W fun δ m => match ra δ m with | .ok .nx δ m => rb δ m | r => r) := by
  refine (pss_cons h1 h2).imp fun D σ H ⟨δ, m, ρ, F, M, rs, P⟩ => ⟨δ, m, ρ, F, M, rs, ?_⟩
  dsimp only at P
  cases q : ra δ m with
  | no => rw [q] at P; exact P.elim
  | ex x δ' m' => rw [q] at P; exact P
  | ok f δ' m' =>
    rw [q] at P
    cases f with
    | nx => exact fun σ' H' ρ' F' x M' rs' => ⟨δ', m', ρ', F', M', rs', PostS.on x P⟩
    | rt d => exact P
    | br => exact P
    | ct => exact P
/-! ### statements -/
theorem s_ex {e : Expr} {pos : Pos} {ra : Sl → Mem → R Dn.D} (he : PE X e (rdE g W ra)) (hn : noComp e = true) : PS X (.Expr e pos) (rdS g W fun δ m => (trimU m (ra δ m)).toS δ fun _ m => .ok .nx δ m) := by
  refine (ps_expr he (sw_none hn)).imp fun D σ H ⟨δ, m, ρ, F, M, rs, P⟩ => ⟨δ, m, ρ, F, M, rs, ?_⟩
  have P : PostS g ρ F m H ((trimU m (ra δ m)).toS δ fun _ m => .ok .nx δ m) D W := P
  exact trimU_post M (PostS.to (rel := RD g) (Q := fun _ => D.nx σ) rs P fun d m' v H' ρ' F' x M' rs' r P' => P'.next M' rs')
theorem s_ret {e : Expr} {pos : Pos} {ra : Sl → Mem → R Dn.D} (he : PE X e (rdE g W ra)) : PS X (.Return (some e) pos) (rdS g W fun δ m => (ra δ m).toS δ fun d m => .ok (.rt d) δ m) :=
  (ps_ret he).imp fun D σ H h => rdS.to h fun δ d m ρ F v H' M rs r P => P σ H' ρ F Ext.refl M rs v r
theorem s_retN {pos : Pos} : PS X (.Return none pos) (rdS g W fun δ m => .ok (.rt (.p .non)) δ m) :=
  ps_retN.imp fun D σ H ⟨δ, m, ρ, F, M, rs, P⟩ => P σ H ρ F Ext.refl M rs .non RP.non
theorem s_pas {pos : Pos} : PS X (.Pass pos) (rdS g W fun δ m => .ok .nx δ m) := ps_pass.imp fun D σ H ⟨δ, m, ρ, F, M, rs, P⟩ => P.next M rs
theorem s_brk {pos : Pos} : PS X (.Break pos) (rdS g W fun δ m => .ok .br δ m) := ps_break.imp fun D σ H ⟨δ, m, ρ, F, M, rs, P⟩ => P σ H ρ F Ext.refl M rs
theorem s_cnt {pos : Pos} : PS X (.Continue pos) (rdS g W fun δ m => .ok .ct δ m) := ps_continue.imp fun D σ H ⟨δ, m, ρ, F, M, rs, P⟩ => P σ H ρ F Ext.refl M rs
theorem s_set (c : Cok g T p lv X W cd) {i : Nat} {x : Str} {e : Expr} {pos np : Pos} {ra : Sl → Mem → R Dn.D} (hi : cd.N[i]? = some x) (hx : isLoc cd x = true) (he : PE X e (rdE g W ra)) (hs : swapsWith e (some (.Name x np)) pos.line X.env = pure false) :
    PS X (.Assign [.Name x np] e pos) (rdS g W fun δ m => (ra δ m).toS δ fun d m => .ok .nx (δ.set i (some d)) m) := by
  obtain ⟨l1, l2⟩ := c.loc hx
  exact (ps_set c.nd (by rw [c.N]; exact hi) l1 he hs l2).imp fun D σ H h => rdS.to h fun δ d m ρ F v H' M rs r P => P.next M (rs.set i r)
theorem s_setLc (c : Cok g T p lv X W cd) {i : Nat} {x : Str} {mu : Bool} {elt : RE} {t : Dn.T} {it : RI} {cnd : RO} {own : List Nat} {ee tg iter : Expr} {ifs : List Expr} {scope : Scope} {ow : List (Str × Nat)} {pos np cp : Pos} (hi : cd.N[i]? = some x) (hx : isL cd x = true)
    (L : LcP g p lv elt t it cnd own X W ee tg iter ifs scope ow) (hsw : swapsWith (.ListComp ee [⟨tg, iter, ifs, 0⟩] scope cp) (some (.Name x np)) pos.line X.env = pure true) :
    PS X (.Assign [.Name x np] (.ListComp ee [⟨tg, iter, ifs, 0⟩] scope cp) pos) (rdS g W fun δ m => (den (callAt p lv) p.gv (.lc mu elt t it cnd own) δ m).toS δ fun d m => .ok .nx (δ.set i (some d)) m) := by
  refine (ps_setLc c.calm c.nd (by rw [c.N]; exact hi) (c.lcl hx) hsw L.pi L.ok L.pg L.pt L.pe L.fs).imp fun D σ H h => ?_
  refine L.rd c (mu := mu) ?_
  exact rdS.to h fun δ d m ρ F v H' M rs r P => P.next M (rs.set i r)
theorem s_asg {t : Dn.T} {tg e : Expr} {pos : Pos} {ra : Sl → Mem → R Dn.D} (he : PE X e (rdE g W ra)) (hg : PG X tg (rdG g t)) (hs : swapsWithSole [tg] e pos.line X.env = pure false) (hw : swappedStores [tg] e X.env = pure none) (h1 : (assignEach [tg] X.env).map (·.2) = [assign tg X.env]) :
    PS X (.Assign [tg] e pos) (rdS g W fun δ m => (ra δ m).toS δ fun d m => match asgT t d m δ with | some δ' => .ok .nx δ' m | none => .no) := by
  refine (ps_asg he hg hs hw h1).imp fun D σ H h => rdS.to h fun δ d m ρ F v H' M rs r P => ?_
  split at P
  · rename_i δ' e1
    exact ⟨d, δ, m, ρ, F, δ', M, r, rs, e1, fun σ' rs' _ => P.next M rs'⟩
  · exact P.elim
theorem s_ite {c : Expr} {a b : List Stmt} {pos : Pos} {rc : Sl → Mem → R Dn.D} {ra rb : Sl → Mem → S} (hc : PT X c (rdT g W fun δ m => (rc δ m).bind asB)) (ha : PSs X a (rdS g W ra)) (hb : PSs X b (rdS g W rb)) :
    PS X (.If c a b pos) (rdS g W fun δ m => ((rc δ m).bind asB).toS δ fun k m => if k then ra δ m else rb δ m) := by
  refine (ps_if hc ha hb).imp fun D σ H h => rdS.to h fun δ d m ρ F v H' M rs r P => ?_
  subst r
  cases v with
  | true => exact ⟨δ, m, ρ, F, M, rs, P⟩
  | false => exact ⟨δ, m, ρ, F, M, rs, P⟩
theorem iset_set {D0 : Ends} {d e y : Dn.D} {δ : Sl} {σ : L2.St} {o i v : V} (M : MRel g ρ F m H) (rs : RSl g ρ F m.length δ σ) (rd : RD g ρ F m.length d o) (re : RD g ρ F m.length e i) (ry : RD g ρ F m.length y v)
    (P : PostS g ρ F m H ((isetS d e y m).toS δ fun _ m => .ok .nx δ m) D W) : rdI g o i v H fun H3 => D.nx σ H3 :=
  ⟨d, e, y, m, ρ, F, WE W σ, M, rd, re, ry, PostS.to rs P fun _ m' _ H' ρ' F' x M' rs' _ P' => P'.next M' rs'⟩
theorem as_sub {o i : Expr} {sp : Pos} {env : Env} (hn : noSl i = true) : ∀ v, assign (.Subscript o i sp) env v = (do
      let ov ← holding [v] (eval o env)
      let iv ← holding [v, ov] (eval i env)
      standAt sp
      holding [v, ov, iv] (setItem ov iv v)
      release [v, ov, iv] []) := by
  intro v
  cases i <;> first | rfl | cases hn
theorem aug_sub {i : Expr} (hn : noSl i = true) : ∀ ov iv new, augStore i ov iv new = (do holding [new, ov, iv] (setItem ov iv new); release [new, ov, iv] []; pure .next) := by
  intro ov iv new
  cases i <;> first | rfl | cases hn
theorem s_iset {a b e : Expr} {pos sp : Pos} {ra rb re : Sl → Mem → R Dn.D} (ha : PE X a (rdE g W ra)) (hb : PE X b (rdE g W rb)) (hn : noSl b = true) (he : PE X e (rdE g W re)) :
    PS X (.Assign [.Subscript a b sp] e pos) (rdS g W fun δ m => (re δ m).toS δ fun v m => (ra δ m).toS δ fun x m => (rb δ m).toS δ fun y m => (isetS x y v m).toS δ fun _ m => .ok .nx δ m) := by
  refine (ps_asg he (pg_sub ha hb (iset_ok (g := g)) (as_sub hn)) (sw_tgt rfl) rfl rfl).imp fun D σ H h => rdS.to h fun δ d m ρ F v H' M rs r P => ?_
  refine ⟨δ, m, ρ, F, M, rs, PostS.to rs P fun x m2 x' H2 ρ2 F2 x2 M2 rs2 r2 P2 => ⟨δ, m2, ρ2, F2, M2, rs2, PostS.to rs2 P2 fun y m3 y' H3 ρ3 F3 x3 M3 rs3 r3 P3 => ?_⟩⟩
  exact iset_set (D0 := D) M3 rs3 (r2.mono x3) r3 ((r.mono x2).mono x3) P3
theorem aug_ok (o : BOp) : PIp X (bO o) (rd2 g (augS o)) := by
  rintro pins s σ H x y v u Q I rx ry ⟨d, e, m, ρ, F, E, M, hd, he, h⟩
  unfold augS at h
  split at h
  · cases hd; cases he
    exact iop_add pins s σ H _ _ v u Q I rx ry ⟨_, _, rfl, rfl, h.val M (RP.int _)⟩
  · cases hd; cases he
    exact iop_sub pins s σ H _ _ v u Q I rx ry ⟨_, _, rfl, rfl, h.val M (RP.int _)⟩
  · cases hd; cases he
    split at h
    · rename_i c
      refine iop_mul pins s σ H _ _ v u Q I rx ry ⟨_, _, rfl, rfl, ?_, h.val M (RP.int _)⟩
      unfold mulOk at c
      simpa [CMul] using c
    · exact h.elim
  · exact h.elim
theorem s_aug (c : Cok g T p lv X W cd) {i : Nat} {x : Str} {o : BOp} {e : Expr} {pos np : Pos} {re : Sl → Mem → R Dn.D} (hi : cd.N[i]? = some x) (hx : isLoc cd x = true) (he : PE X e (rdE g W re)) :
    PS X (.AugAssign (.Name x np) (bO o) e pos) (rdS g W fun δ m => match δ[i]? with
      | some (some x) => (re δ m).toS δ fun y m => (augS o x y m).toS δ fun z m => .ok .nx (δ.set i (some z)) m
      | _ => .no) := by
  obtain ⟨l1, l2⟩ := c.loc hx
  refine (ps_aug c.nd (by rw [c.N]; exact hi) l1 he (aug_ok (g := g) o) l2).imp fun D σ H ⟨δ, m, ρ, F, M, rs, P⟩ => ?_
  dsimp only at P
  split at P
  · rename_i d ed
    obtain ⟨v, ev, r⟩ := rs.get i d ed
    refine ⟨v, ev, δ, m, ρ, F, M, rs, PostS.to rs P fun y m2 y' H2 ρ2 F2 x2 M2 rs2 r2 P2 => ?_⟩
    exact ⟨d, y, m2, ρ2, F2, WE W σ, M2, r.mono x2, r2, PostS.to rs2 P2 fun z m3 z' H3 ρ3 F3 x3 M3 rs3 r3 P3 => P3.next M3 (rs3.set i r3)⟩
  · exact P.elim
theorem get_ok : PGet X (rd2 g getS) := by
  rintro pins s σ H o i ov iv Q I ro ri ⟨d, e, m, ρ, F, E, M, hd, he, h⟩
  unfold getS at h
  split at h
  · rename_i n k
    cases he
    split at h
    · rename_i l el
      split at h
      · rename_i x ex
        obtain ⟨ho, rfl, h1, h2⟩ := M.look el hd
        obtain ⟨vs, rfl, h3⟩ := rmo_lst h2
        obtain ⟨v, ev, rv⟩ := atI_rel h3 ex
        cases ro
        obtain ⟨t, rfl⟩ := ri
        obtain ⟨its, r, pl, hz⟩ := I.list (SqL.of h1)
        obtain ⟨j, k1, k2, k3, k4, k5⟩ := atI_get ev
        obtain ⟨w, ew, rw'⟩ := r.get k2
        have hl := r.length
        have hn := line63
        have fin : EP X pins σ Q w s := ⟨v, H, I, rw', h.val M rv⟩
        by_cases h0 : 0 ≤ k
        · have hj : k.toNat = j := by
            rw [seqIndex_of h0 k5] at k1
            exact Option.some.inj k1
          exact wpAny_getItem_list pl.isList h0 (by omega) (by rw [hj]; simpa using ew) fin
        · have hj : (k + (its.toArray.size : Int)).toNat = j := by
            rw [seqIndex_neg (by omega) k4] at k1
            rw [List.size_toArray, ← hl]
            exact Option.some.inj k1
          exact wpAny_getItem_list_neg pl.isList (by omega) (by rw [List.size_toArray] <;> omega) (by omega) (by rw [hj]; simpa using ew) fin
      · exact h.elim
    · exact h.elim
  · exact h.elim
theorem s_iaug (c : Cok g T p lv X W cd) {o : BOp} {a b e : Expr} {pos sp : Pos} {ra rb re : Sl → Mem → R Dn.D} (ha : PE X a (rdE g W ra)) (hb : PE X b (rdE g W rb)) (hn : noSl b = true) (he : PE X e (rdE g W re)) :
    PS X (.AugAssign (.Subscript a b sp) (bO o) e pos) (rdS g W fun δ m => (ra δ m).toS δ fun u m => (rb δ m).toS δ fun i m => (getS u i m).toS δ fun x m => (re δ m).toS δ fun y m => (augS o x y m).toS δ fun z m => (isetS u i z m).toS δ fun _ m => .ok .nx δ m) := by
  refine (ps_augS ha hb (get_ok (g := g)) he (aug_ok (g := g) o) (iset_ok (g := g)) (aug_sub hn)).imp fun D σ H h => rdS.to h fun δ u m ρ F u' H' M rs ru P => ?_
  refine ⟨δ, m, ρ, F, M, rs, PostS.to rs P fun i m2 i' H2 ρ2 F2 x2 M2 rs2 ri P2 => ?_⟩
  refine ⟨u, i, m2, ρ2, F2, WE W σ, M2, ru.mono x2, ri, PostS.to rs2 P2 fun x m3 x' H3 ρ3 F3 x3 M3 rs3 rx P3 => ?_⟩
  refine ⟨δ, m3, ρ3, F3, M3, rs3, PostS.to rs3 P3 fun y m4 y' H4 ρ4 F4 x4 M4 rs4 ry P4 => ?_⟩
  refine ⟨x, y, m4, ρ4, F4, WE W σ, M4, rx.mono x4, ry, PostS.to rs4 P4 fun z m5 z' H5 ρ5 F5 x5 M5 rs5 rz P5 => ?_⟩
  exact iset_set (D0 := D) M5 rs5 ((((ru.mono x2).mono x3).mono x4).mono x5) (((ri.mono x3).mono x4).mono x5) rz P5
theorem s_whl {c : Expr} {b : List Stmt} {pos : Pos} {rc : Sl → Mem → R Dn.D} {rb : Sl → Mem → S} (hp : PassesOwn (model X.prog X.w) X.A X.env X.xe) (hc : PT X c (rdT g W fun δ m => (rc δ m).bind asB)) (hb : PSs X b (rdS g W rb)) (n : Nat) :
    PS X (.While c b [] pos) (rdS g W fun δ m => whlRun (fun δ m => (rc δ m).bind asB) rb n δ m) := by
  refine (ps_while hp hc hb).imp fun D σ H h => ⟨fun n => rdS g W (whlRun (fun δ m => (rc δ m).bind asB) rb n) D, ⟨n, h⟩, fun n σ H h => ?_⟩
  cases n with
  | zero => obtain ⟨δ, m, ρ, F, M, rs, P⟩ := h; exact P.elim
  | succ n =>
    refine rdS.to (rel := RB') h fun δ d m ρ F v H' M rs r P => ?_
    subst r
    cases v with
    | false => exact P.next M rs
    | true =>
      rw [if_pos rfl]
      refine ⟨fun σ' H' => rdS g W (whlRun (fun δ m => (rc δ m).bind asB) rb n) D σ' H', fun σ' H' q => ⟨n, Nat.lt_succ_self n, q⟩, δ, m, ρ, F, M, rs, ?_⟩
      simp only [if_true] at P
      cases q : rb δ m with
      | no => rw [q] at P; exact P.elim
      | ex x δ' m' => rw [q] at P; exact P
      | ok f δ' m' =>
        rw [q] at P
        cases f with
        | nx => exact fun σ' H' ρ' F' x M' rs' => ⟨δ', m', ρ', F', M', rs', PostS.on x P⟩
        | ct => exact fun σ' H' ρ' F' x M' rs' => ⟨δ', m', ρ', F', M', rs', PostS.on x P⟩
        | br => exact fun σ' H' ρ' F' x M' rs' => P σ' H' ρ' F' x M' rs'
        | rt d => exact P
theorem s_for {t : Dn.T} {tg iter : Expr} {b : List Stmt} {pos : Pos} {rt : Sl → Mem → R Its} {rb : Sl → Mem → S} (hp : PassesOwn (model X.prog X.w) X.A X.env X.xe) (hc : X.calm = true) (hi : PI X tg iter (rdIt g W rt)) (hg : PG X tg (rdG g t)) (hb : PSs X b (rdS g W rb)) (hs : noSet iter = true) :
    PS X (.For tg iter b [] pos) (rdS g W fun δ m => (rt δ m).toS δ fun its m => forRun (fun x δ m => match asgT t x m δ with | some δ' => rb δ' m | none => .no) its its.l δ m) := by
  refine (ps_for hp hc hi hg hb (fold_ok hs)).imp fun D σ H h => rdS.to h fun δ its m ρ F J H1 M rs RJ P => ?_
  generalize hf : (fun x δ m => match asgT t x m δ with | some δ' => rb δ' m | none => .no) = f at P
  let Iv : Nat → L2.St → Hp → Prop := fun i σ' Hc => ∃ δ' m' ρ' F', On ρ F m.length ρ' F' m' ∧ MRel g ρ' F' m' Hc ∧ RSl g ρ' F' m'.length δ' σ' ∧ PostS g ρ' F' m' Hc (forRun f its (its.l.drop i) δ' m') D W
  refine ⟨fun i n σ' Hc => n = its.l.length - i ∧ i ≤ its.l.length ∧ Iv i σ' Hc, ⟨_, rfl, Nat.zero_le _, δ, m, ρ, F, On.refl, M, rs, P⟩, ?_⟩
  rintro i n σ' Hc ⟨rfl, hi', δ', m', ρ', F', on, M1, rs1, P1⟩
  by_cases hlt : i < its.l.length
  · have hdrop : its.l.drop i = its.l[i] :: its.l.drop (i + 1) := List.drop_eq_getElem_cons hlt
    rw [hdrop] at P1
    unfold forRun at P1
    split at P1
    · rename_i held
      obtain ⟨go, yl⟩ := (RJ.2 ρ' F' m' Hc on M1 held i).1 its.l[i] (List.getElem?_eq_getElem hlt)
      refine .inr ⟨go, Iv (i + 1), fun σ2 H' q => ⟨_, by omega, rfl, hlt, q⟩, fun xv H' y => ?_⟩
      obtain ⟨F2, x2, M2, r2⟩ := yl xv H' y
      have P2 := PostS.on x2 P1
      have on2 := on.ext x2
      rw [← hf] at P2
      dsimp only at P2
      cases ea : asgT t its.l[i] m' δ' with
      | none => rw [ea] at P2; exact P2.elim
      | some δ2 =>
        rw [ea] at P2
        dsimp only at P2
        refine ⟨its.l[i], δ', m', ρ', F2, δ2, M2, r2, rs1.mono x2, ea, fun σ2 rs2 _ => ⟨δ2, m', ρ', F2, M2, rs2, ?_⟩⟩
        rw [hf] at P2
        cases q : rb δ2 m' with
        | no => rw [q] at P2; exact P2.elim
        | ex x δ3 m3 => rw [q] at P2; exact P2
        | ok fl δ3 m3 =>
          rw [q] at P2
          cases fl with
          | nx => exact fun σ3 H3 ρ3 F3 x3 M3 rs3 => ⟨δ3, m3, ρ3, F3, on2.ext x3, M3, rs3, PostS.on x3 P2⟩
          | ct => exact fun σ3 H3 ρ3 F3 x3 M3 rs3 => ⟨δ3, m3, ρ3, F3, on2.ext x3, M3, rs3, PostS.on x3 P2⟩
          | br => exact fun σ3 H3 ρ3 F3 x3 M3 rs3 => P2 σ3 H3 ρ3 F3 x3 M3 rs3
          | rt d => exact P2
    · exact P1.elim
  · have e : i = its.l.length := by omega
    subst e
    rw [List.drop_length] at P1
    unfold forRun at P1
    split at P1
    · rename_i held
      exact .inl ⟨(RJ.2 ρ' F' m' Hc on M1 held _).2 (List.getElem?_eq_none (Nat.le_refl _)), P1.next M1 rs1⟩
    · exact P1.elim
/-! ### fields -/
theorem setF_rel (inj : ∀ a b, g.fN a = g.fN b → a = b) {k f : Nat} {y : Dn.D} {v : V} (r : RD g ρ F k y v) : ∀ {l : List (Nat × Dn.D)} {fs : List (Str × V)}, RDf g ρ F k l fs → RDf g ρ F k (setF l f y) (putF (g.fN f) v fs)
  | [], [], _ => ⟨⟨rfl, r⟩, trivial⟩
  | (n, x) :: l, (s, u) :: fs, h => by
    obtain ⟨⟨h1, h2⟩, h3⟩ := h
    dsimp only at h1 h2
    subst h1
    unfold setF putF
    by_cases e : n = f
    · subst e
      rw [if_pos rfl, if_pos rfl]
      exact ⟨⟨rfl, r⟩, h3⟩
    · rw [if_neg e, if_neg fun z => e (inj _ _ z)]
      exact ⟨⟨rfl, h2⟩, setF_rel inj r h3⟩
  | [], _ :: _, h => h.elim
  | _ :: _, [], h => h.elim
theorem setF_len {α : Type} {f : Nat} {y : α} : ∀ {l : List (Nat × α)}, (setF l f y).length ≤ l.length + 1
  | [] => Nat.le_refl _
  | (n, x) :: l => by
    unfold setF
    split
    · simp
    · simpa using setF_len (l := l)
theorem RDf.len {k : Nat} : ∀ {l : List (Nat × Dn.D)} {fs : List (Str × V)}, RDf g ρ F k l fs → l.length = fs.length
  | [], [], _ => rfl
  | _ :: _, _ :: _, h => congrArg Nat.succ (RDf.len h.2)
  | [], _ :: _, h => h.elim
  | _ :: _, [], h => h.elim
theorem s_fset (c : Cok g T p lv X W cd) {a v : Expr} {x : Str} {f : Nat} {pp pos : Pos} {ra rv : Sl → Mem → R Dn.D} (hx : T.fl f = some x) (ha : PE X a (rdE g W ra)) (hv : PE X v (rdE g W rv)) :
    PS X (.Assign [.Attribute a x pp] v pos) (rdS g W fun δ m => (rv δ m).toS δ fun v m => (ra δ m).toS δ fun x m => (fsetS p.gv f x v m).toS δ fun _ m => .ok .nx δ m) := by
  have ex := c.fl f x hx
  subst ex
  refine (ps_fld ha hv (by cases v <;> rfl)).imp fun D σ H h => rdS.to h fun δ y m ρ F yv H' M rs r P => ⟨δ, m, ρ, F, M, rs, PostS.to rs P fun d m2 dv H2 ρ2 F2 x2 M2 rs2 r2 P2 => ?_⟩
  unfold fsetS at P2
  split at P2
  · rename_i n
    split at P2
    · rename_i cn l q
      split at P2
      · rename_i hz
        obtain ⟨ho, rfl, h1, h2⟩ := M2.look q r2
        obtain ⟨dx, fs, rfl, hc, h3⟩ := rmo_ins h2
        obtain ⟨x3, M3⟩ := step_put (o' := .ins cn (setF l f y)) (ho := .ins (g.cA cn) dx (putF (g.fN f) yv fs)) M2 (get_some q) ⟨⟨by have := setF_len (f := f) (y := y) (l := l); omega, rfl, hc⟩, setF_rel c.kf.inj (r.mono x2) h3⟩
        refine ⟨_, _, dx, fs, rfl, h1, by rw [c.K]; exact c.kf.cls _ hc, c.fk _ _ hz.1, by have := RDf.len h3; omega, ?_⟩
        exact (PostS.on x3 P2).next M3 (rs2.mono x3)
      · exact P2.elim
    · exact P2.elim
  · exact P2.elim
end
end Dn

/-! Dn, part P: a, b = x, y; the check of statements is enough. -/
namespace Dn
open PySem PySem.Spec PyProof.Rows L2
section
variable {g : Gn} {W : WX} {X : Cx} {T : Tb} {p : Pg} {lv : Nat} {cd : Cd} {ρ ρ1 : Rho} {F F1 H H1 : Hp} {m m1 : Mem}
/-- an object that nobody knows -/
theorem step_alien {ho : HO} {a : Addr} (M : MRel g ρ F m H) (ha : H a = none) : Ext ρ F m H ρ F m (upd H a ho) ∧ MRel g ρ F m (upd H a ho) := by
  have fa := M.free ha
  refine ⟨⟨fun _ _ h => h, Nat.le_refl _, fun _ _ => rfl, fun _ h => h, fun k h l => absurd l.lt (Nat.not_lt.mpr h), fun b u h _ => by rw [upd_ne (ne_of_none h ha)]; exact h, fun b u h => ⟨u, by rw [upd_ne (ne_of_none h ha)]; exact h⟩, fun _ _ h => .inl h⟩, ⟨fun b u h => ?_, fun k u e => ?_, M.inj⟩⟩
  · rw [upd_ne (ne_of_none h fa)]; exact M.sub b u h
  · obtain ⟨f, ho', h1, h2⟩ := M.mem k u e
    exact ⟨f, ho', by rw [upd_ne (ne_of_none h1 ha)]; exact h1, h2⟩
def setsV (is : List Nat) (vs : List V) (σ : L2.St) : L2.St := (is.zip vs).foldl (fun σ p => σ.set p.1 (some p.2)) σ
theorem RSl.sets : ∀ {is : List Nat} {ds : List Dn.D} {vs : List V} {δ : Sl} {σ : L2.St}, RSl g ρ F m.length δ σ → RDs g ρ F m.length ds vs → RSl g ρ F m.length ((is.zip ds).foldl (fun δ p => δ.set p.1 (some p.2)) δ) (setsV is vs σ)
  | [], _, _, _, _, rs, _ => by simpa [setsV] using rs
  | _ :: _, [], [], _, _, rs, _ => by simpa [setsV] using rs
  | i :: is, d :: ds, v :: vs, δ, σ, rs, r => RSl.sets (is := is) (rs.set i r.1) r.2
  | _ :: _, [], _ :: _, _, _, _, r => r.elim
  | _ :: _, _ :: _, [], _, _, _, r => r.elim
def gNames (is : List Nat) : TGs := fun vs σ H Q => vs.length = is.length ∧ Q (setsV is vs σ) H
def namesOk (cd : Cd) : List Nat → List Expr → Bool
  | [], [] => true
  | i :: is, .Name x _ :: es => decide (cd.N[i]? = some x) && isLoc cd x && namesOk cd is es
  | _, _ => false
theorem names_ok (c : Cok g T p lv X W cd) : ∀ {is : List Nat} {es : List Expr}, namesOk cd is es = true → PGs X es (gNames is) ∧ es.all (fun e => match e with | .Name .. => true | .Tuple .. => true | _ => false) = true ∧ es.length = is.length
  | [], [], _ => ⟨pgs_nil.imp fun vs σ H Q ⟨h1, h2⟩ => by
      cases vs with
      | nil => exact ⟨rfl, h2⟩
      | cons _ _ => exact absurd h1 (by simp), rfl, rfl⟩
  | i :: is, .Name x pos :: es, h => by
    unfold namesOk at h
    obtain ⟨h, h3⟩ := and3 h
    obtain ⟨h1, h2⟩ := and3 h
    obtain ⟨k1, k2, k3⟩ := names_ok c h3
    obtain ⟨l1, l2⟩ := c.loc h2
    refine ⟨(pgs_cons (pg_name c.nd (by rw [c.N]; exact of_decide_eq_true h1) l1 l2) k1 rfl).imp fun vs σ H Q ⟨q1, q2⟩ => ?_, by rw [List.all_cons, k2]; rfl, by rw [List.length_cons, List.length_cons, k3]⟩
    cases vs with
    | nil => cases q1
    | cons v vs => exact ⟨v, vs, rfl, by simpa using q1, q2⟩
/-- .. by a tuple -/
theorem s_parT (c : Cok g T p lv X W cd) {is : List Nat} {ts vs : List Expr} {k1 k2 : Nat} {p1 p2 pos : Pos} {rl : Sl → Mem → R (List Dn.D)} (hn : namesOk cd is ts = true) (hz : is.length ≤ 100) (ha : PA X vs (rdA g W rl)) (hw : swappedStores [.Tuple ts k1 p1] (.Tuple vs k2 p2) X.env = pure none) :
    PS X (.Assign [.Tuple ts k1 p1] (.Tuple vs k2 p2) pos) (rdS g W fun δ m => (rl δ m).toS δ fun ds m => if ds.length = is.length then .ok .nx ((is.zip ds).foldl (fun δ p => δ.set p.1 (some p.2)) δ) m else .no) := by
  obtain ⟨n1, n2, n3⟩ := names_ok c hn
  obtain ⟨a1, a2⟩ := as_len (env := X.env) n2
  refine (ps_asg (pe_tup ha) (pg_tup c.calm n1 a1 a2) (sw_tgt rfl) hw rfl).imp fun D σ H h => rdS.to h fun δ ds m ρ F xs H' M rs r P => ?_
  split at P
  · rename_i hl
    have hl2 : xs.length = is.length := by rw [← r.length]; exact hl
    refine ⟨by rw [hl2]; exact Nat.le_trans hz (by decide), fun a ha => ⟨a, xs, rfl, SqT.of upd_same, by rw [hl2, n3], hl2, ?_⟩⟩
    obtain ⟨x1, M1⟩ := step_alien (ho := .tup xs) M ha
    exact P _ _ _ _ x1 M1 ((rs.sets r).mono x1)
  · exact P.elim
theorem s_par2 (c : Cok g T p lv X W cd) {i j : Nat} {x y : Str} {a b : Expr} {kt k2 : Nat} {px py pt pt2 pos : Pos} {rl : Sl → Mem → R (List Dn.D)} (hi : cd.N[i]? = some x) (hj : cd.N[j]? = some y) (hij : i ≠ j) (hx : isL cd x = true) (hy : isL cd y = true) (ha : PA X [a, b] (rdA g W rl))
    (hw : swappedStores [.Tuple [.Name x px, .Name y py] kt pt] (.Tuple [a, b] k2 pt2) X.env = pure (some [x, y])) :
    PS X (.Assign [.Tuple [.Name x px, .Name y py] kt pt] (.Tuple [a, b] k2 pt2) pos) (rdS g W fun δ m => (rl δ m).toS δ fun ds m => if ds.length = [i, j].length then .ok .nx (([i, j].zip ds).foldl (fun δ p => δ.set p.1 (some p.2)) δ) m else .no) := by
  refine (ps_par c.calm c.nd (by rw [c.N]; exact hi) (by rw [c.N]; exact hj) hij (c.lcl hx) (c.lcl hy) ha hw rfl).imp fun D σ H h => rdS.to h fun δ ds m ρ F xs H' M rs r P => ?_
  split at P
  · rename_i hl
    match ds, xs, r, hl with
    | [d, e], [v, w], r, _ => exact ⟨v, w, rfl, P.next M (rs.sets (is := [i, j]) r)⟩
  · exact P.elim
theorem s_par3 (c : Cok g T p lv X W cd) {i j l : Nat} {x y z : Str} {a b d : Expr} {kt k2 : Nat} {px py pz pt pt2 pos : Pos} {rl : Sl → Mem → R (List Dn.D)} (hi : cd.N[i]? = some x) (hj : cd.N[j]? = some y) (hk : cd.N[l]? = some z) (hij : i ≠ j) (hil : i ≠ l) (hjl : j ≠ l) (hx : isL cd x = true) (hy : isL cd y = true) (hz : isL cd z = true) (ha : PA X [a, b, d] (rdA g W rl))
    (hw : swappedStores [.Tuple [.Name x px, .Name y py, .Name z pz] kt pt] (.Tuple [a, b, d] k2 pt2) X.env = pure (some [x, y, z])) :
    PS X (.Assign [.Tuple [.Name x px, .Name y py, .Name z pz] kt pt] (.Tuple [a, b, d] k2 pt2) pos) (rdS g W fun δ m => (rl δ m).toS δ fun ds m => if ds.length = [i, j, l].length then .ok .nx (([i, j, l].zip ds).foldl (fun δ p => δ.set p.1 (some p.2)) δ) m else .no) := by
  refine (ps_par3 c.calm c.nd (by rw [c.N]; exact hi) (by rw [c.N]; exact hj) (by rw [c.N]; exact hk) hij hil hjl (c.lcl hx) (c.lcl hy) (c.lcl hz) ha hw rfl).imp fun D σ H h => rdS.to h fun δ ds m ρ F xs H' M rs r P => ?_
  split at P
  · rename_i hl
    match ds, xs, r, hl with
    | [d, e, f], [v, w, u], r, _ => exact ⟨v, w, u, rfl, P.next M (rs.sets (is := [i, j, l]) r)⟩
  · exact P.elim
/-! ### which way -/
def noSwap (cd : Cd) (ts vs : List Expr) : Bool := (ts.any fun t => match t with | .Name x _ => !isL cd x | _ => true) || vs.all (foldedForSure 8) || decide (3 < ts.length)
theorem isL_no (c : Cok g T p lv X W cd) {x : Str} (h : isL cd x = false) : (X.env.kindOf x == some NameKind.local) = false := by
  unfold isL at h
  unfold Env.kindOf
  rw [c.sc]
  cases q : cd.sc.names.lookup x with
  | none => rfl
  | some k =>
    rw [q] at h
    cases k <;> first | rfl | cases h
theorem isL_yes (c : Cok g T p lv X W cd) {x : Str} (h : isL cd x = true) : (X.env.kindOf x == some NameKind.local) = true := by
  have := c.lcl h
  unfold Env.kindOf
  rw [this]
  rfl
theorem noSwap_ok (c : Cok g T p lv X W cd) {ts vs : List Expr} {k1 k2 : Nat} {p1 p2 : Pos} (h : noSwap cd ts vs = true) : swappedStores [.Tuple ts k1 p1] (.Tuple vs k2 p2) X.env = pure none := by
  unfold swappedStores
  simp only [pure_bind]
  unfold noSwap at h
  split
  · rfl
  · rename_i z1
    split
    · rfl
    · split
      · rfl
      · rename_i z3
        split
        · rfl
        · rename_i z4
          exfalso
          rcases Bool.or_eq_true_iff.mp h with h | h
          · rcases Bool.or_eq_true_iff.mp h with h | h
            · apply z3
              rw [Bool.or_eq_true]
              left
              rw [bne_iff_ne]
              apply Nat.ne_of_lt
              rw [List.length_filterMap_lt_length_iff_exists]
              obtain ⟨t, ht, e⟩ := List.any_eq_true.mp h
              refine ⟨t, ht, ?_⟩
              cases t <;> first | rfl | skip
              rename_i x pos
              have := isL_no c (x := x) (by simpa using e)
              simp [this]
            · exact z4 h
          · apply z1
            have := of_decide_eq_true h
            have h2 : (ts.length == 2) = false := by simp; omega
            have h3 : (ts.length == 3) = false := by simp; omega
            rw [h2, h3]
            rfl
def swap2 (cd : Cd) (x y : Str) (px py : Pos) (a b : Expr) : Bool := isL cd x && isL cd y && decide (x ≠ y) && (py.line == px.line) && !(constantsAlone 8 a && constantsAlone 8 b) && !(foldedForSure 8 a && foldedForSure 8 b) && noStar a && noStar b && decide (cd.sc.kind = .function)
theorem noStar_m {a : Expr} (h : noStar a = true) : (match a with | .Starred .. => true | _ => false) = false := by cases a <;> first | rfl | cases h
theorem swap2_ok (c : Cok g T p lv X W cd) {x y : Str} {px py p1 p2 : Pos} {a b : Expr} {k1 k2 : Nat} (h : swap2 cd x y px py a b = true) : swappedStores [.Tuple [.Name x px, .Name y py] k1 p1] (.Tuple [a, b] k2 p2) X.env = pure (some [x, y]) := by
  unfold swap2 at h
  obtain ⟨h, h9⟩ := and3 h
  obtain ⟨h, h8⟩ := and3 h
  obtain ⟨h, h7⟩ := and3 h
  obtain ⟨h, h6⟩ := and3 h
  obtain ⟨h, h5⟩ := and3 h
  obtain ⟨h, h4⟩ := and3 h
  obtain ⟨h, h3⟩ := and3 h
  obtain ⟨h1, h2⟩ := and3 h
  have hb : X.env.blockKind = .function := by
    unfold Env.blockKind
    rw [c.sc, of_decide_eq_true h9]
    rfl
  have k1 := isL_yes c h1
  have k2 := isL_yes c h2
  have hxy : (x == y) = false := by simpa using of_decide_eq_true h3
  have hyx : (y == x) = false := by simpa using Ne.symm (of_decide_eq_true h3)
  unfold swappedStores
  simp only [pure_bind, hb, noStar_m h7, noStar_m h8, List.any_cons, List.any_nil, List.filterMap_cons, List.filterMap_nil, k1, k2, List.head?_cons, Option.map_some, Option.getD_some, Expr.pos, h4, beq_self_eq_true, Bool.and_true, if_true, List.all_cons, List.all_nil]
  have e1 : [x, y].eraseDups.length = 2 := by simp [List.eraseDups_cons, hxy, hyx]
  rw [if_neg (by simp), if_neg, if_neg (by rw [e1]; simp), if_neg (fun z => by rw [z] at h6; cases h6), if_neg (fun z => by rw [z] at h5; cases h5)]
  intro z
  rcases Bool.or_eq_true_iff.mp z with z | z
  · split at z
    · cases h7
    · cases z
  · rw [Bool.or_false] at z
    split at z
    · cases h8
    · cases z
def swap3 (cd : Cd) (x y z : Str) (px py pz : Pos) (a b d : Expr) : Bool := isL cd x && isL cd y && isL cd z && decide (x ≠ y) && decide (x ≠ z) && decide (y ≠ z) && (py.line == px.line) && (pz.line == px.line) && !(constantsAlone 8 a && (constantsAlone 8 b && constantsAlone 8 d)) && !(foldedForSure 8 a && (foldedForSure 8 b && foldedForSure 8 d)) && noStar a && noStar b && noStar d && decide (cd.sc.kind = .function)
theorem swap3_ok (c : Cok g T p lv X W cd) {x y z : Str} {px py pz p1 p2 : Pos} {a b d : Expr} {k1 k2 : Nat} (h : swap3 cd x y z px py pz a b d = true) : swappedStores [.Tuple [.Name x px, .Name y py, .Name z pz] k1 p1] (.Tuple [a, b, d] k2 p2) X.env = pure (some [x, y, z]) := by
  unfold swap3 at h
  obtain ⟨h, h14⟩ := and3 h
  obtain ⟨h, h13⟩ := and3 h
  obtain ⟨h, h12⟩ := and3 h
  obtain ⟨h, h11⟩ := and3 h
  obtain ⟨h, h10⟩ := and3 h
  obtain ⟨h, h9⟩ := and3 h
  obtain ⟨h, h8⟩ := and3 h
  obtain ⟨h, h7⟩ := and3 h
  obtain ⟨h, h6⟩ := and3 h
  obtain ⟨h, h5⟩ := and3 h
  obtain ⟨h, h4⟩ := and3 h
  obtain ⟨h, h3⟩ := and3 h
  obtain ⟨h1, h2⟩ := and3 h
  have hb : X.env.blockKind = .function := by
    unfold Env.blockKind
    rw [c.sc, of_decide_eq_true h14]
    rfl
  have k1 := isL_yes c h1
  have k2 := isL_yes c h2
  have k3 := isL_yes c h3
  have yx : (y == x) = false := by simpa using Ne.symm (of_decide_eq_true h4)
  have zx : (z == x) = false := by simpa using Ne.symm (of_decide_eq_true h5)
  have zy : (z == y) = false := by simpa using Ne.symm (of_decide_eq_true h6)
  unfold swappedStores
  simp only [pure_bind, hb, List.any_cons, List.any_nil, List.filterMap_cons, List.filterMap_nil, k1, k2, k3, List.head?_cons, Option.map_some, Option.getD_some, Expr.pos, h7, h8, beq_self_eq_true, Bool.and_true, if_true, List.all_cons, List.all_nil]
  have e1 : [x, y, z].eraseDups.length = 3 := by simp [List.eraseDups_cons, yx, zx, zy]
  rw [if_neg (by simp), if_neg, if_neg (by rw [e1]; simp), if_neg (fun z => by rw [z] at h10; cases h10), if_neg (fun z => by rw [z] at h9; cases h9)]
  intro q
  rcases Bool.or_eq_true_iff.mp q with q | q
  · split at q
    · cases h11
    · cases q
  rcases Bool.or_eq_true_iff.mp q with q | q
  · split at q
    · cases h12
    · cases q
  · rw [Bool.or_false] at q
    split at q
    · cases h13
    · cases q
theorem swap2_l {cd : Cd} {x y : Str} {px py : Pos} {a b : Expr} (h : swap2 cd x y px py a b = true) : isL cd x = true ∧ isL cd y = true := by
  unfold swap2 at h
  simp only [Bool.and_eq_true] at h
  exact h.1.1.1.1.1.1.1
theorem swap3_l {cd : Cd} {x y z : Str} {px py pz : Pos} {a b d : Expr} (h : swap3 cd x y z px py pz a b d = true) : (isL cd x = true ∧ isL cd y = true) ∧ isL cd z = true := by
  unfold swap3 at h
  simp only [Bool.and_eq_true] at h
  exact h.1.1.1.1.1.1.1.1.1.1.1
/-! ### the check -/
def swB (cd : Cd) (x : Str) (np cp : Pos) (scope : Scope) : Bool := isL cd x && (np.line == cp.line) && !(scope.names.any fun (n, k) => n == x && (k == .local || k == .cell))
theorem sw_lc (c : Cok g T p lv X W cd) {ee : Expr} {gs : List Comprehension} {scope : Scope} {x : Str} {np cp : Pos} {l : Nat} (hk : cd.sc.kind = .function) : swapsWith (.ListComp ee gs scope cp) (some (.Name x np)) l X.env = pure (swB cd x np cp scope) := by
  have hb : X.env.blockKind = .function := by
    unfold Env.blockKind
    rw [c.sc, hk]
    rfl
  have ek : (X.env.kindOf x == some NameKind.local) = isL cd x := by
    cases q : isL cd x with
    | true => exact isL_yes c q
    | false => exact isL_no c q
  unfold swapsWith swB
  simp only [hb, ek, Expr.pos]
  rfl
mutual
def chkS (T : Tb) (cd : Cd) : RS → Stmt → Bool
  | .set i e, s => match s with
    | .Assign [.Name x np] v _ => decide (cd.N[i]? = some x) && isLoc cd x && decide (cd.sc.kind = .function) && chkE T cd e v && (match v with
      | .ListComp .. => (match e with | .lc .. => true | _ => false)
      | _ => noComp v)
    | _ => false
  | .asg t e, s => match s with
    | .Assign [.Tuple ts k tp] v _ => chkT cd t (.Tuple ts k tp) && chkE T cd e v && (match v with | .Tuple .. => false | _ => true)
    | _ => false
  | .par is l, s => match s with
    | .Assign [.Tuple ts _ _] (.Tuple vs _ _) _ => namesOk cd is ts && chkL T cd l vs && decide (is.length ≤ 100) && (noSwap cd ts vs || (match is, ts, vs with
      | [i, j], [.Name x px, .Name y py], [a, b] => decide (i ≠ j) && swap2 cd x y px py a b
      | [i, j, k], [.Name x px, .Name y py, .Name z pz], [a, b, d] => decide (i ≠ j) && decide (i ≠ k) && decide (j ≠ k) && swap3 cd x y z px py pz a b d
      | _, _, _ => false))
    | _ => false
  | .iset a b e, s => match s with
    | .Assign [.Subscript x y _] v _ => chkE T cd a x && chkE T cd b y && noSl y && chkE T cd e v
    | _ => false
  | .fset a f e, s => match s with
    | .Assign [.Attribute x n _] v _ => decide (T.fl f = some n) && chkE T cd a x && chkE T cd e v
    | _ => false
  | .wall, _ => true
  | .aug i o e, s => match s with
    | .AugAssign (.Name x _) op v _ => decide (cd.N[i]? = some x) && isLoc cd x && decide (op = bO o) && chkE T cd e v
    | _ => false
  | .iaug a b o e, s => match s with
    | .AugAssign (.Subscript x y _) op v _ => chkE T cd a x && chkE T cd b y && noSl y && decide (op = bO o) && chkE T cd e v
    | _ => false
  | .ex e, s => match s with
    | .Expr v _ => chkE T cd e v && noComp v
    | _ => false
  | .ret e, s => match s with
    | .Return (some v) _ => chkE T cd e v
    | .Return none _ => (match e with | .cst .non => true | _ => false)
    | _ => false
  | .ite c a b, s => match s with
    | .If x y z _ => chkE T cd c x && noIf x && chkB T cd a y && chkB T cd b z
    | _ => false
  | .forr t it b, s => match s with
    | .For tg iter y [] _ => chkT cd t tg && chkI T cd it tg iter && noSet iter && chkB T cd b y
    | _ => false
  | .whl _ c b, s => match s with
    | .While x y [] _ => chkE T cd c x && noIf x && chkB T cd b y
    | _ => false
  | .pas, s => match s with
    | .Pass _ => true
    | _ => false
  | .brk, s => match s with
    | .Break _ => true
    | _ => false
  | .cnt, s => match s with
    | .Continue _ => true
    | _ => false
def chkB (T : Tb) (cd : Cd) : RB → List Stmt → Bool
  | .nil, l => l.isEmpty
  | .cons s b, l => match l with
    | x :: l => chkS T cd s x && chkB T cd b l
    | [] => false
end
theorem tup_asg {ts : List Expr} {k : Nat} {tp : Pos} {env : Env} : (assignEach [Expr.Tuple ts k tp] env).map (·.2) = [assign (.Tuple ts k tp) env] := rfl
theorem swapped_no {ts : List Expr} {k : Nat} {tp : Pos} {v : Expr} {env : Env} (h : (match v with | .Tuple .. => false | _ => true) = true) : swappedStores [.Tuple ts k tp] v env = pure none := by cases v <;> first | rfl | cases h
mutual
theorem sS : ∀ (rs : RS) {X : Cx} {W : WX} {cd : Cd} (c : Cok g T p lv X W cd) (hp : PassesOwn (model X.prog X.w) X.A X.env X.xe) {s : Stmt}, chkS T cd rs s = true → PS X s (rdS g W (denS (callAt p lv) p.gv rs))
  | .set i e, X, W, cd, c, hp, s, h => by
    unfold chkS at h
    split at h
    · rename_i x np v pos
      simp only [Bool.and_eq_true] at h
      obtain ⟨⟨⟨⟨h1, h2⟩, h3⟩, h4⟩, h5⟩ := h
      have h1 := of_decide_eq_true h1
      have h3 := of_decide_eq_true h3
      split at h5
      · rename_i ee gs scope cp
        cases q : swB cd x np cp scope with
        | false => exact s_set c h1 h2 (sE e c h4).pe (by rw [sw_lc c h3, q])
        | true =>
          split at h5
          · rename_i mu elt t it cnd own
            obtain ⟨ee', tg, iter, ifs, scope', pos', e1, L⟩ := lcP_mk c h4 (fun q => sI it c q) (fun c' q => sC cnd c' q) (fun c' q => (sE elt c' q).pe)
            cases e1
            refine s_setLc c h1 ?_ L (by rw [sw_lc c h3, q])
            unfold swB at q
            exact (and3 (and3 q).1).1
          · cases h5
      · exact s_set c h1 h2 (sE e c h4).pe (sw_none h5)
    · cases h
  | .asg t e, X, W, cd, c, hp, s, h => by
    unfold chkS at h
    split at h
    · obtain ⟨h, h3⟩ := and3 h
      obtain ⟨h1, h2⟩ := and3 h
      exact s_asg (sE e c h2).pe (g_ok c h1) (sw_tgt rfl) (swapped_no h3) tup_asg
    · cases h
  | .par is l, X, W, cd, c, hp, s, h => by
    unfold chkS at h
    split at h
    · obtain ⟨h, h4⟩ := and3 h
      obtain ⟨h, h3⟩ := and3 h
      obtain ⟨h1, h2⟩ := and3 h
      rcases Bool.or_eq_true_iff.mp h4 with h4 | h4
      · exact s_parT c h1 (of_decide_eq_true h3) (sL l c h2) (noSwap_ok c h4)
      · split at h4
        · obtain ⟨h4, h5⟩ := and3 h4
          obtain ⟨s1, s2⟩ := swap2_l h5
          obtain ⟨n1, n2⟩ := and3 h1
          obtain ⟨n2, n3⟩ := and3 n2
          exact s_par2 c (of_decide_eq_true (and3 n1).1) (of_decide_eq_true (and3 n2).1) (of_decide_eq_true h4) s1 s2 (sL l c h2) (swap2_ok c h5)
        · obtain ⟨h4, h5⟩ := and3 h4
          obtain ⟨h4, h43⟩ := and3 h4
          obtain ⟨h41, h42⟩ := and3 h4
          obtain ⟨⟨s1, s2⟩, s3⟩ := swap3_l h5
          obtain ⟨n1, n2⟩ := and3 h1
          obtain ⟨n2, n3⟩ := and3 n2
          obtain ⟨n3, n4⟩ := and3 n3
          exact s_par3 c (of_decide_eq_true (and3 n1).1) (of_decide_eq_true (and3 n2).1) (of_decide_eq_true (and3 n3).1) (of_decide_eq_true h41) (of_decide_eq_true h42) (of_decide_eq_true h43) s1 s2 s3 (sL l c h2) (swap3_ok c h5)
        · cases h4
    · cases h
  | .iset a b e, X, W, cd, c, hp, s, h => by
    unfold chkS at h
    split at h
    · obtain ⟨h, h4⟩ := and3 h
      obtain ⟨h, h3⟩ := and3 h
      obtain ⟨h1, h2⟩ := and3 h
      exact s_iset (sE a c h1).pe (sE b c h2).pe h3 (sE e c h4).pe
    · cases h
  | .fset a f e, X, W, cd, c, hp, s, h => by
    unfold chkS at h
    split at h
    · obtain ⟨h, h3⟩ := and3 h
      obtain ⟨h1, h2⟩ := and3 h
      exact s_fset c (of_decide_eq_true h1) (sE a c h2).pe (sE e c h3).pe
    · cases h
  | .wall, X, W, cd, c, hp, s, h => ⟨fun pins s σ H D I ⟨δ, m, ρ, F, M, rs, P⟩ => P.elim⟩
  | .aug i o e, X, W, cd, c, hp, s, h => by
    unfold chkS at h
    split at h
    · obtain ⟨h, h4⟩ := and3 h
      obtain ⟨h, h3⟩ := and3 h
      obtain ⟨h1, h2⟩ := and3 h
      have h3 := of_decide_eq_true h3
      subst h3
      exact s_aug c (of_decide_eq_true h1) h2 (sE e c h4).pe
    · cases h
  | .iaug a b o e, X, W, cd, c, hp, s, h => by
    unfold chkS at h
    split at h
    · obtain ⟨h, h5⟩ := and3 h
      obtain ⟨h, h4⟩ := and3 h
      obtain ⟨h, h3⟩ := and3 h
      obtain ⟨h1, h2⟩ := and3 h
      have h4 := of_decide_eq_true h4
      subst h4
      exact s_iaug c (sE a c h1).pe (sE b c h2).pe h3 (sE e c h5).pe
    · cases h
  | .ex e, X, W, cd, c, hp, s, h => by
    unfold chkS at h
    split at h
    · obtain ⟨h1, h2⟩ := and3 h
      exact s_ex (sE e c h1).pe h2
    · cases h
  | .ret e, X, W, cd, c, hp, s, h => by
    unfold chkS at h
    split at h
    · exact s_ret (sE e c h).pe
    · split at h
      · exact s_retN
      · cases h
    · cases h
  | .ite d a b, X, W, cd, c, hp, s, h => by
    unfold chkS at h
    split at h
    · obtain ⟨h, h4⟩ := and3 h
      obtain ⟨h, h3⟩ := and3 h
      obtain ⟨h1, h2⟩ := and3 h
      exact s_ite ((sE d c h1).pt h2) (sB a c hp h3) (sB b c hp h4)
    · cases h
  | .forr t it b, X, W, cd, c, hp, s, h => by
    unfold chkS at h
    split at h
    · obtain ⟨h, h4⟩ := and3 h
      obtain ⟨h, h3⟩ := and3 h
      obtain ⟨h1, h2⟩ := and3 h
      exact s_for hp c.calm (sI it c h2) (g_ok c h1) (sB b c hp h4) h3
    · cases h
  | .whl n d b, X, W, cd, c, hp, s, h => by
    unfold chkS at h
    split at h
    · obtain ⟨h, h3⟩ := and3 h
      obtain ⟨h1, h2⟩ := and3 h
      exact s_whl hp ((sE d c h1).pt h2) (sB b c hp h3) n
    · cases h
  | .pas, X, W, cd, c, hp, s, h => by
    unfold chkS at h
    split at h
    · exact s_pas
    · cases h
  | .brk, X, W, cd, c, hp, s, h => by
    unfold chkS at h
    split at h
    · exact s_brk
    · cases h
  | .cnt, X, W, cd, c, hp, s, h => by
    unfold chkS at h
    split at h
    · exact s_cnt
    · cases h
theorem sB : ∀ (rb : RB) {X : Cx} {W : WX} {cd : Cd} (c : Cok g T p lv X W cd) (hp : PassesOwn (model X.prog X.w) X.A X.env X.xe) {l : List Stmt}, chkB T cd rb l = true → PSs X l (rdS g W (denB (callAt p lv) p.gv rb))
  | .nil, X, W, cd, c, hp, l, h => by
    unfold chkB at h
    cases l with
    | nil => exact b_nil
    | cons _ _ => cases h
  | .cons s b, X, W, cd, c, hp, l, h => by
    unfold chkB at h
    split at h
    · obtain ⟨h1, h2⟩ := and3 h
      exact b_cons (sS s c hp h1) (sB b c hp h2)
    · cases h
end
end
end Dn

/-! Dn, part Q: defs. -/
namespace Dn
open PySem PySem.Spec PyProof.Rows L2
/-- a def as it stands behind the top -/
structure FnK (g : Gn) (T : Tb) (p : Pg) (K : PySem.W.Frag) (f : Nat) (d : FD) (a : Addr) (fd : FuncData) (ps : List Str) : Prop where
  ex : ∃ (x qual : Str) (params : Arguments) (body : List Stmt) (scope : Scope) (N : List Str),
    FunD K x qual params body scope [] [] a fd ∧ FnScope N ps scope ∧ chkB T ⟨N, scope, fun _ => true⟩ d.body body = true ∧ N.length = d.ns ∧ ps.length = d.np ∧ d.df = [] ∧ d.st = false
  bnd : Binds K fd ps []
  kw : ∀ np ks pm, T.kw f np ks = some pm → pm.length = ps.length ∧ (∀ i ∈ pm, i < np + ks.length) ∧ KBn K fd ps np ks (permL pm) (permL pm)
structure Base (g : Gn) (T : Tb) (p : Pg) (mg : Str → Option Value) (ad : Nat → Addr) : Prop where
  kf : Kf g
  bl : ∀ x ∈ (["isinstance", "range", "zip", "len", "int", "abs", "list", "tuple", "all", "any", "sum", "str", "bool", "dict", "enumerate", "sorted", "min", "max", "set", "type", "repr"] : List String), mg (Str.ofString x) = none
  gl : ∀ n x, T.gl n = some x → ∃ v u, mg x = some u ∧ RelV v u ∧ ∀ F, RP g F (p.gv.c n) v
  cn : ∀ n x, T.cn n = some x → mg x = some (.ref (g.cA n)) ∧ g.cs n = true
  fd : ∀ f d, p.fd f = some d → ∃ fd ps, FnK g T p g.K f d (ad f) fd ps
  fn : ∀ f x, T.fn f = some x → mg x = some (.ref (ad f)) ∧ ∃ d, p.fd f = some d
  fl : ∀ n x, T.fl n = some x → g.fN n = x
  fk : ∀ c n, p.gv.fk c n = true → NoAttr g.K (g.cA c) (g.fN n)
  mt : ∀ c n f x, p.gv.mt c n = some f → T.mn n = some x → (∀ j, g.fN j ≠ x) ∧ Meth g.K (g.cA c) x (ad f)
  pr : ∀ c n f x, p.gv.pr c n = some f → T.mn n = some x → ∃ q, PropOf g.K (g.cA c) x q (ad f)
  ini : ∀ c f, p.gv.ini c = some f → g.cs c = true ∧ Mk g.K (g.cA c) (ad f)
  om : ∀ c k f, p.gv.om c k = some f → PySem.W.findIn g.K (.ref (g.cA c)) (omN k) = some (some (.ref (ad f))) ∧ PySem.W.isFn g.K (.ref (ad f)) = true
  one : ∀ c f, p.gv.om c 3 = some f → PySem.W.findIn g.K (.ref (g.cA c)) "__ne__" = some (some (.builtin "object.__ne__"))
  cc : ∀ c n x y, p.gv.cc c n = some y → T.cc n = some x → ∃ mc v u, ClX.CRead g.K (g.cA c) mc ∧ ClX.CVal g.K (g.cA c) mc x v u ∧ ∀ F, RP g F y v
  sm : ∀ c n f b x, p.gv.sm c n = some (f, b) → T.sn n = some x → ∃ mc q, ClX.CRead g.K (g.cA c) mc ∧ b = true ∧ ClX.CMet g.K (g.cA c) mc x q (ad f)
def spL (g : Gn) (p : Pg) (lv f : Nat) (n : Nat) : Sp := fun vs H Q E => vs.length = n ∧ ∃ ds m ρ F, MRel g ρ F m H ∧ RDs g ρ F m.length ds vs ∧ PostD g ρ F m H (callAt p lv f ds m) Q E
section
variable {g : Gn} {T : Tb} {p : Pg} {lv : Nat} {P : Program} {w : World} {mg : Str → Option Value} {base : Heap}
theorem args_plain {d : FD} (h1 : d.df = []) (h2 : d.st = false) {l l' : List D} (h : argsD d l = some l') : l' = l ∧ l.length = d.np := by
  unfold argsD at h
  rw [h2, h1] at h
  simp only [List.length_nil, Nat.add_zero, List.drop_nil, List.map_nil, List.append_nil] at h
  split at h
  · rename_i hl
    cases h
    exact ⟨rfl, by omega⟩
  · cases h
theorem runD_args {cl : Nat → List D → Mem → R D} {gv : Gv} {d : FD} (h1 : d.df = []) (h2 : d.st = false) {l : List D} {m : Mem} {ρ : Rho} {F H : Hp} {Q : VK} {E : XK} (h : PostD g ρ F m H (runD cl gv d l m) Q E) : l.length = d.np ∧ argsD d l = some l := by
  unfold runD at h
  split at h
  · rename_i l' e
    obtain ⟨rfl, e2⟩ := args_plain h1 h2 e
    exact ⟨e2, e⟩
  · exact h.elim
theorem start_ok {ρ : Rho} {F : Hp} {k n : Nat} {N : List Str} {ds : List D} {vs : List V} (r : RDs g ρ F k ds vs) (hn : N.length = n) : RSl g ρ F k (startD n ds) (L2.start N vs) := by
  have hl := r.length
  refine ⟨by unfold startD L2.start; simp [hl, hn], fun i d e => ?_⟩
  unfold startD at e
  unfold L2.start
  by_cases hi : i < ds.length
  · rw [List.getElem?_append_left (by simpa using hi), List.getElem?_map] at e
    obtain ⟨d', e1, e2⟩ := Option.map_eq_some_iff.mp e
    cases e2
    obtain ⟨v, e3, r3⟩ := r.get e1
    exact ⟨v, by rw [List.getElem?_append_left (by rw [List.length_map, ← hl]; exact hi), List.getElem?_map, e3]; rfl, r3⟩
  · rw [List.getElem?_append_right (by simpa using hi)] at e
    have := List.getElem?_eq_some_iff.mp e
    obtain ⟨h1, h2⟩ := this
    simp at h2
theorem FnR_of {a : Addr} {fd : FuncData} {ps : List Str} {f : Nat} {d : FD} (hd : p.fd f = some d) (k : FnK g T p g.K f d a fd ps) {j : Nat} (Fn : FnOk P w g.K mg base (L2.CX P w) j a fd ps (spL g p lv f ps.length)) :
    FnR P w g.K mg base (L2.CX P w) j a (fun vs H Q E => ∃ ds m ρ F, MRel g ρ F m H ∧ RDs g ρ F m.length ds vs ∧ PostD g ρ F m H (callAt p lv f ds m) Q E) := by
  refine (FnOk.raw Fn k.bnd (dvs := []) .nil).imp fun vs H Q E ⟨ds, m, ρ, F, M, r, h⟩ => ?_
  rw [List.append_nil]
  refine ⟨?_, ds, m, ρ, F, M, r, h⟩
  obtain ⟨x, qual, params, body, scope, N, _, _, _, _, e2, e3, e4⟩ := k.ex
  cases lv with
  | zero => exact h.elim
  | succ lv =>
    unfold callAt at h
    rw [hd] at h
    rw [← r.length, e2]
    exact (runD_args e3 e4 h).1
variable {ad : Nat → Addr}
/-- a def that is in no table gives nothing -/
theorem FnR_none {a : Addr} {f : Nat} {j : Nat} (h : p.fd f = none) : FnR P w g.K mg base (L2.CX P w) j a (fun vs H Q E => ∃ ds m ρ F, MRel g ρ F m H ∧ RDs g ρ F m.length ds vs ∧ PostD g ρ F m H (callAt p lv f ds m) Q E) := fun A outer s H us vs Q E _ _ _ ⟨ds, m, ρ, F, _, _, P⟩ => by
  have e : callAt p lv f ds m = .no := by
    cases lv with
    | zero => rfl
    | succ lv => unfold callAt; rw [h]
  rw [e] at P
  exact P.elim
/-- every def of the text, at every depth -/
theorem all_fn (B : Base g T p mg ad) : ∀ (lv f : Nat) (d : FD), p.fd f = some d → ∀ (fd : FuncData) (ps : List Str), FnK g T p g.K f d (ad f) fd ps → FnOk P w g.K mg base (L2.CX P w) (3 * lv + 2) (ad f) fd ps (spL g p lv f ps.length)
  | 0, f, d, hf, fd, ps, k => ⟨fun vs H Q E h => h.1, fun A outer s H args us vs Q E _ _ _ _ ⟨_, ds, m, ρ, F, M, r, h⟩ => h.elim⟩
  | lv + 1, f, d, hf, fd, ps, k => by
    obtain ⟨x, qual, params, body, scope, N, e2, S, e3, e4, e5, e6, e7⟩ := k.ex
    refine e2.ok S (fun vs H Q E h => h.1) fun cdv A outer s H vs Q E hr ⟨hl, ds, m, ρ, F, M, r, h⟩ => ?_
    unfold callAt at h
    rw [hf] at h
    obtain ⟨h1, h2⟩ := runD_args e6 e7 h
    dsimp only at h
    unfold runD at h
    rw [h2] at h
    dsimp only at h
    have h := trim_post M h
    have R : ∀ f, FnR P w g.K mg base (L2.CX P w) (3 * lv + 2) (ad f) (fun vs H Q E => ∃ ds m ρ F, MRel g ρ F m H ∧ RDs g ρ F m.length ds vs ∧ PostD g ρ F m H (callAt p lv f ds m) Q E) := fun f' => by
      cases hf' : p.fd f' with
      | none => exact FnR_none hf'
      | some d' =>
        obtain ⟨fd', ps', k'⟩ := B.fd f' d' hf'
        exact FnR_of hf' k' (all_fn B lv f' d' hf' fd' ps' k')
    have c : Cok g T p lv (cxOf (L2.CX P w) P w g.K mg base N qual scope (ad f) cdv A outer s H E) (fun cls dd _ H => E cls dd H) ⟨N, scope, fun _ => true⟩ := {
      K := rfl
      kf := B.kf
      N := rfl
      sc := rfl
      fn := rfl
      nd := S.nd
      calm := rfl
      tk := takes_of rfl rfl rfl rfl
      room := hr
      bl := B.bl
      call := fun f' x' hf' => by
        obtain ⟨q1, d', q2⟩ := B.fn f' x' hf'
        obtain ⟨fd', ps', k'⟩ := B.fd f' d' q2
        obtain ⟨_, _, _, _, _, _, e2', _⟩ := k'.ex
        exact ⟨ad f', q1, e2'.kp, R f'⟩
      callK := fun f' x' np ks pm hf' hp => by
        obtain ⟨q1, d', q2⟩ := B.fn f' x' hf'
        obtain ⟨fd', ps', k'⟩ := B.fd f' d' q2
        obtain ⟨_, _, _, _, _, _, e2', _⟩ := k'.ex
        obtain ⟨q3, q4, q5⟩ := k'.kw np ks pm hp
        exact ⟨ad f', fd', ps', q1, e2'.kp, all_fn B lv f' d' q2 fd' ps' k', q3, q4, q5⟩
      gl := B.gl
      cn := B.cn
      fl := B.fl
      fk := B.fk
      mt := fun c n f x h1 h2 => let ⟨q1, q2⟩ := B.mt c n f x h1 h2; ⟨q1, ad f, q2, R f⟩
      pr := fun c n f x h1 h2 => let ⟨q, q1⟩ := B.pr c n f x h1 h2; ⟨q, ad f, q1, R f⟩
      ini := fun c f h1 => let ⟨q1, q2⟩ := B.ini c f h1; ⟨q1, ad f, q2, R f⟩
      om := fun c k f h1 => let ⟨q1, q2⟩ := B.om c k f h1; ⟨ad f, q1, q2, R f⟩
      one := B.one
      cc := B.cc
      smK := fun c n f' x d' ks pm h1 h2 hf' hp => by
        obtain ⟨mc, q, q1, q2, q3⟩ := B.sm c n f' true x h1 h2
        obtain ⟨fd', ps', k'⟩ := B.fd f' d' hf'
        obtain ⟨q4, q5, q6⟩ := k'.kw 1 ks pm hp
        exact ⟨mc, q, ad f', fd', ps', q1, q3, all_fn B lv f' d' hf' fd' ps' k', q4, q5, q6⟩
      sm := fun c n f b x h1 h2 => let ⟨mc, q, q1, q2, q3⟩ := B.sm c n f b x h1 h2; ⟨mc, q, ad f, q1, R f, q2, q3⟩ }
    refine ⟨_, sB d.body c (passes_of rfl) e3, startD d.ns ds, m, ρ, F, M, start_ok r e4, ?_⟩
    cases q : denB (callAt p lv) p.gv d.body (startD d.ns ds) m with
    | no => rw [q] at h; exact h.elim
    | ex x δ' m' =>
      rw [q] at h
      exact fun σ cls dd H' ρ' F' e M' _ rx => h cls dd H' ρ' F' e M' rx
    | ok fl δ' m' =>
      rw [q] at h
      cases fl with
      | rt dv => exact fun σ H' ρ' F' e M' _ v rv => h v H' ρ' F' e M' rv
      | nx => exact fun σ H' ρ' F' e M' _ => h .non H' ρ' F' e M' RP.non
      | br => exact h.elim
      | ct => exact h.elim
end
end Dn

/-! Dn, part R: the end. -/
namespace Dn
open PySem PySem.Spec PyProof.Rows L2
theorem mem_lk {α : Type} : ∀ {l : List (Nat × α)} {n : Nat} {x : α}, l.lookup n = some x → (n, x) ∈ l
  | (k, v) :: r, n, x, h => by
    rw [List.lookup_cons] at h
    cases hb : n == k with
    | true =>
      rw [hb] at h
      cases h
      rw [beq_iff_eq.mp hb]
      exact List.mem_cons_self
    | false =>
      rw [hb] at h
      exact List.mem_cons_of_mem _ (mem_lk h)
def fnScopeB (N ps : List Str) (sc : Scope) : Bool := decide (sc.kind = .function) && !sc.isCoroutine && !sc.isGenerator && decide N.Nodup && decide (N.take ps.length = ps) &&
  ps.all (fun x => match sc.names.lookup x with | some .local => true | some .cell => true | _ => false) && sc.names.all (fun y => decide (y.2 ≠ .free))
theorem fnScope_ok {N ps : List Str} {sc : Scope} (h : fnScopeB N ps sc = true) : FnScope N ps sc := by
  unfold fnScopeB at h
  simp only [Bool.and_eq_true] at h
  obtain ⟨⟨⟨⟨⟨⟨h1, h2⟩, h3⟩, h4⟩, h5⟩, h6⟩, h7⟩ := h
  refine ⟨of_decide_eq_true h1, by simpa using h2, by simpa using h3, of_decide_eq_true h4, of_decide_eq_true h5, fun x hx => ?_, fun y hy => of_decide_eq_true (List.all_eq_true.mp h7 y hy)⟩
  have := List.all_eq_true.mp h6 x hx
  split at this
  · rename_i e; exact .inl e
  · rename_i e; exact .inr e
  · cases this
def defB (T : Tb) (d : FD) (N ps : List Str) (st : Stmt) : Bool := chkB T ⟨N, defScope st, fun _ => true⟩ d.body (defBody st) && fnScopeB N ps (defScope st) && decide (N.length = d.ns) && decide (ps.length = d.np) && d.df.isEmpty && !d.st
theorem mk_fn {g : Gn} {T : Tb} {p : Pg} {f : Nat} {x qual : Str} {a : Addr} {fd : FuncData} {N ps : List Str} {st : Stmt} {d : FD} (F : FunD g.K x qual (defArgs st) (defBody st) (defScope st) [] [] a fd) (h : defB T d N ps st = true)
    (bnd : Binds g.K fd ps []) (kw : ∀ np ks pm, T.kw f np ks = some pm → pm.length = ps.length ∧ (∀ i ∈ pm, i < np + ks.length) ∧ KBn g.K fd ps np ks (permL pm) (permL pm)) : FnK g T p g.K f d a fd ps := by
  unfold defB at h
  simp only [Bool.and_eq_true] at h
  obtain ⟨⟨⟨⟨⟨h1, h2⟩, h3⟩, h4⟩, h5⟩, h6⟩ := h
  exact ⟨⟨x, qual, _, _, _, N, F, fnScope_ok h2, h1, of_decide_eq_true h3, of_decide_eq_true h4, by simpa using h5, by simpa using h6⟩, bnd, kw⟩
theorem sp_law {g : Gn} {p : Pg} {lv f : Nat} {ns : List Int} {H : Hp} {a : Addr} {E : XK} (hz : ns.length ≤ sizeLine) (h : ∃ m, callAt p lv f [.p (.scr ns)] [] = .ok (.p (.bl true)) m) (hS : SqL g.K H a (ns.map V.int)) : spL g p lv f 1 [.ref a] H (fun v _ => v = .bl true) E := by
  obtain ⟨m, e⟩ := h
  refine ⟨rfl, [.p (.scr ns)], [], fun _ => 0, H, ⟨Sub.of fun _ _ h => h, fun n o h => ?_, fun n n' ⟨o, h⟩ => ?_⟩, ⟨RP.scr hz hS, trivial⟩, ?_⟩
  · simp at h
  · simp at h
  · rw [e]
    intro v H' ρ' F' x M r
    cases r
    rfl
theorem perm_vals {l : List V} {us : List Value} (r : Vals l us) : ∀ pm : List Nat, Vals (pm.filterMap (l[·]?)) (pm.filterMap (us[·]?))
  | [] => .nil
  | i :: pm => by
    rw [List.filterMap_cons, List.filterMap_cons]
    cases e : l[i]? with
    | none =>
      rw [r.none_of e]
      exact perm_vals r pm
    | some v =>
      obtain ⟨u, e1, r3⟩ := r.get e
      rw [e1]
      exact .cons r3 (perm_vals r pm)
theorem kbn_of {K : PySem.W.Frag} {fd : FuncData} {ps ks : List Str} {np : Nat} {pm : List Nat} (h : ∀ us ws : List Value, us.length = np → ws.length = ks.length → bindArgs fd ⟨us, ks.zip ws⟩ = pure (ps.zip (permL pm us ws))) : KBn K fd ps np ks (permL pm) (permL pm) where
  to := fun s us ws _ h1 h2 => .of_eq (h us ws h1 h2)
  rel := fun {vs us zs ws} r1 r2 => perm_vals (r1.append r2) pm
theorem dn_walk {l : PySem.W.OpenLaw} {n k : Nat} {q : Program} {loose : List Str} {XP : (Str → Option Value) → Heap → Prop} {YP : World → Heap → Prop} {d : DefRec} {x : Str}
    (hn : l.most = some n) (hn2 : n ≤ sizeLine) (hdf : d.params.defaults = []) (hr : Room k callerA)
    (F : ∀ (w : World) (mg : Str → Option Value) (fa : Addr) (h : Heap), YP w h → h.Ns mainGlobals mg → mg d.name = some (.ref fa) →
      ∃ (K : PySem.W.Frag) (fd : FuncData) (sp : Sp), K.In h ∧ (∀ (s : Shared) (u : Value), BindsTo s fd ⟨[u], []⟩ [(x, u)]) ∧
        (∀ (H : Hp) (a : Addr) (ns : List Int), ns.length ≤ n → (∀ k ∈ ns, Builtin.Int.intBits k ≤ 1048576) → SqL K H a (ns.map V.int) → sp [.ref a] H (fun v _ => v = .bl true) fun _ _ _ => False) ∧
        ∀ base : Heap, K.In base → base.Ns mainGlobals mg → FnOk l.prog w K mg base (L2.CX l.prog w) k fa fd [x] sp) :
    PySem.W.WalkO q loose XP YP l.row.toRowW d [] (fun f vs => PySem.call f vs) := by
  refine Att.attach_callB hn hdf fun w s₀ s₁ mg mb fa o pm cd doc a vs ns G Y ho hd hcd hmg hobj hints hlen hbits hg => ?_
  obtain ⟨K, fd, sp, KX, hb, hsp, hF⟩ := F w mg fa _ Y G.T.g hmg
  refine law_call KX G.T.g G.T.b G.T.builtins G.T.nolimit hg hobj hints (Nat.le_trans hlen hn2) hr hF hb (fun H hO hS => hsp H a ns hlen hbits hS) fun H e s' z => ?_
  obtain ⟨_, _, _, _, _, _, _, _, _, _, _, _, z⟩ := z
  exact z

/-- a class's statements -/
def clsBd : Stmt → List Stmt
  | .ClassDef (body := b) .. => b
  | _ => []
/-! ### a law's tables -/
open He (ga ma eqO eqO_ok ba)
/-- where a def stands -/
inductive At where | glo (x : Str) | meth (C m : Str) | prop (C m : Str) | cmet (C m : Str)
def At.ad (K : PySem.W.Frag) : At → Addr
  | .glo x => ga K x
  | .meth C m => ma K (ga K C) m
  | .prop C m => He5.wf K (ga K C) "property" m
  | .cmet C m => He5.wf K (ga K C) "classmethod" m
/-- a class: its name; the fields it may be asked for; its methods, properties, __init__, own methods, constants, methods called by its name -/
structure ClD where
  name : Str
  fk : List Nat := []
  mt : List (Nat × Nat) := []
  pr : List (Nat × Nat) := []
  ini : Option Nat := none
  om : List (Nat × Nat) := []
  cc : List (Nat × P) := []
  sm : List (Nat × Nat) := []
structure Tab where
  cl : List (Nat × ClD)
  fl : List (Nat × Str)
  mn : List (Nat × Str)
  cn : List (Nat × Str)
  fn : List (Nat × Str)
  gl : List (Nat × Str)
  gv : List (Nat × P)
  fd : List (Nat × FD)
  at_ : List (Nat × At)
  kw : List (Nat × Nat × List Str × List Nat)
def fieldN (l : List (Nat × Str)) (n : Nat) : Str := (l.lookup n).getD ⟨#[1114112 + n]⟩
namespace Tab
variable (t : Tab)
def kwF (f np : Nat) (ks : List Str) : Option (List Nat) := (t.kw.find? fun q => decide (q.1 = f ∧ q.2.1 = np ∧ q.2.2.1 = ks)).map (·.2.2.2)
def tb : Tb := ⟨fun n => t.fn.lookup n, fun n => t.gl.lookup n, fun n => (t.cl.lookup n).map (·.name), t.kwF, fun n => t.fl.lookup n, fun n => t.mn.lookup n, fun n => t.cn.lookup n, fun n => t.mn.lookup n⟩
def gvv : Gv := ⟨fun n => (t.gv.lookup n).getD .non, fun c n => (t.cl.lookup c).bind fun d => d.mt.lookup n, fun c n => match t.cl.lookup c with | some d => decide (n ∈ d.fk) | none => false, fun c => (t.cl.lookup c).bind (·.ini),
  fun c n => (t.cl.lookup c).bind fun d => d.cc.lookup n, fun c n => (t.cl.lookup c).bind fun d => d.om.lookup n, fun c n => ((t.cl.lookup c).bind fun d => d.sm.lookup n).map fun f => (f, true), fun c n => (t.cl.lookup c).bind fun d => d.pr.lookup n⟩
def pg : Pg := ⟨fun n => t.fd.lookup n, t.gvv⟩
def ad (K : PySem.W.Frag) (f : Nat) : Addr := match t.at_.lookup f with | some a => a.ad K | none => 0
def gn (K : PySem.W.Frag) : Gn := ⟨K, fun c => match t.cl.lookup c with | some d => ga K d.name | none => 0, fieldN t.fl, fun c => (t.cl.lookup c).isSome⟩
def names : List Str := t.cl.map (·.2.name)
/-- the tables agree with themselves -/
def isAt (f : Nat) (a : At → Bool) : Bool := match t.at_.lookup f with | some x => a x | none => false
def atM (C m : Str) : At → Bool
  | .meth D k => decide (D = C) && decide (k = m)
  | _ => false
def atP (C m : Str) : At → Bool
  | .prop D k => decide (D = C) && decide (k = m)
  | _ => false
def atC (C m : Str) : At → Bool
  | .cmet D k => decide (D = C) && decide (k = m)
  | _ => false
def plainCh (x : Str) : Bool := x.cps.all (· < 1114112)
def clOk (d : ClD) : Bool :=
  d.mt.all (fun q => match t.mn.lookup q.1 with | some x => t.isAt q.2 (atM d.name x) && decide (x ∉ t.fl.map (·.2)) && plainCh x | none => false) &&
  (d.pr.all (fun q => match t.mn.lookup q.1 with | some x => t.isAt q.2 (atP d.name x) | none => false) &&
  ((match d.ini with | some f => t.isAt f (atM d.name "__init__") | none => true) &&
  (d.om.all (fun q => t.isAt q.2 (atM d.name (omN q.1))) &&
  d.sm.all (fun q => match t.mn.lookup q.1 with | some x => t.isAt q.2 (atC d.name x) | none => false))))
def ok : Bool := decide (t.fl.map (·.2)).Nodup && (t.fl.all (fun q => plainCh q.2) && (decide t.names.Nodup && (t.cl.all (fun q => t.clOk q.2) && (t.fn.all (fun q => (match t.at_.lookup q.1 with | some (.glo x) => decide (x = q.2) | _ => false) && (t.fd.lookup q.1).isSome)))))
/-! what the head says -/
def clsB (K : PySem.W.Frag) (d : ClD) : Bool :=
  (He.Fa.cls d.name).ok K && (eqO (PySem.W.findIn K (.ref (ga K d.name)) "__class__") (some (some (.builtin "object.__class__"))) && (decide (PySem.W.mroIn K (ga K d.name) (.type "object") = some true) &&
  (bts.all (fun s => decide (PySem.W.kitOne K (.type s) (.ref (ga K d.name)) = some false)) && (bts.all (fun s => decide (PySem.W.kitOne K (.ref (ga K d.name)) (.type s) = some false)) &&
  (t.names.all (fun n => decide (PySem.W.kitOne K (.ref (ga K n)) (.ref (ga K d.name)) = some (decide (d.name = n))) && PySem.W.notFirst K (ga K d.name) (.ref (ga K n))) &&
  (d.fk.all (fun n => (He.Fa.noat d.name (fieldN t.fl n)).ok K) &&
  (d.mt.all (fun q => match t.mn.lookup q.1 with | some x => (He.Fa.meth d.name x).ok K | none => false) &&
  (d.om.all (fun q => (He.Fa.meth d.name (omN q.1)).ok K && (!(q.1 == 3) || eqO (PySem.W.findIn K (.ref (ga K d.name)) "__ne__") (some (some (.builtin "object.__ne__"))))) &&
  ((match d.ini with | some _ => (He.Fa.mkr d.name).ok K | none => true) &&
  (d.pr.all (fun q => match t.mn.lookup q.1 with
    | some x => eqO (PySem.W.findIn K (.ref (ga K d.name)) x) (some (some (.ref (ma K (ga K d.name) x)))) && (eqO (PySem.W.specialIn K (.ref (ma K (ga K d.name) x)) "__get__") (some (some (.builtin "property.__get__"))) &&
      (decide (PySem.W.takesIn K (.ref (ma K (ga K d.name) x)) = some true) && (match PySem.W.recIn K (ma K (ga K d.name) x) "property" with | some (.ref _ :: _) => true | _ => false)))
    | none => false) &&
  (((d.cc.isEmpty && d.sm.isEmpty) || PySem.W.readsIn K (ga K d.name) (.type "type")) &&
  (d.cc.all (fun q => match t.cn.lookup q.1, q.2 with
    | some x, .int i => (match PySem.W.findCls K (.ref (ga K d.name)) (.type "type") x with | some (.val (.int j _)) => decide (j = i) | _ => false)
    | _, _ => false) &&
  d.sm.all (fun q => match t.mn.lookup q.1 with | some x => He5.wrapB K (ga K d.name) "classmethod" "classmethod.__get__" x && PySem.W.fnIn K (He5.wf K (ga K d.name) "classmethod" x) | none => false)))))))))))))
def builtL : List Str := ["isinstance", "range", "zip", "len", "int", "abs", "list", "tuple", "all", "any", "sum", "str", "bool", "dict", "enumerate", "sorted", "min", "max", "set", "type", "repr"]
def glB (K : PySem.W.Frag) (x : Str) : P → Bool
  | .int i => (He.Fa.int x i).ok K
  | .str z => (He.Fa.str x z).ok K && decide (z.length ≤ 10000)
  | _ => false
def facts (K : PySem.W.Frag) : Bool :=
  eqO (PySem.W.specialIn K (.builtin "object.__class__") "__get__") (some (some (.builtin "getset_descriptor.__get__"))) && (decide (PySem.W.takesIn K (.builtin "object.__class__") = some true) &&
  (t.cl.all (fun q => (He.Fa.glo q.2.name).ok K && t.clsB K q.2) && (t.fn.all (fun q => (He.Fa.glo q.2).ok K) && (builtL.all (fun x => (He.Fa.free x).ok K) &&
  t.gl.all (fun q => glB K q.2 ((t.gv.lookup q.1).getD .non))))))
end Tab
section
variable {t : Tab} {K : PySem.W.Frag} {h : Heap} {mg : Str → Option Value}
theorem lk_mem {α : Type} {l : List (Nat × α)} {n : Nat} {x : α} (h : l.lookup n = some x) : (n, x) ∈ l := mem_lk h
theorem nodup_lk : ∀ {l : List (Nat × Str)}, (l.map (·.2)).Nodup → ∀ {a b : Nat} {x : Str}, l.lookup a = some x → l.lookup b = some x → a = b
  | [], _, _, _, _, h, _ => by cases h
  | (k, v) :: r, hn, a, b, x, h1, h2 => by
    rw [List.map_cons, List.nodup_cons] at hn
    rw [List.lookup_cons] at h1 h2
    by_cases e1 : a = k
    · by_cases e2 : b = k
      · rw [e1, e2]
      · rw [show (a == k) = true by simpa using e1] at h1
        rw [show (b == k) = false by simpa using e2] at h2
        cases h1
        exact absurd (List.mem_map.mpr ⟨_, mem_lk h2, rfl⟩) hn.1
    · rw [show (a == k) = false by simpa using e1] at h1
      by_cases e2 : b = k
      · rw [show (b == k) = true by simpa using e2] at h2
        cases h2
        exact absurd (List.mem_map.mpr ⟨_, mem_lk h1, rfl⟩) hn.1
      · rw [show (b == k) = false by simpa using e2] at h2
        exact nodup_lk hn.2 h1 h2
theorem fresh_ne {x : Str} (h : Tab.plainCh x = true) (n : Nat) : (⟨#[1114112 + n]⟩ : Str) ≠ x := fun z => by
  subst z
  unfold Tab.plainCh at h
  simp at h
  omega
theorem fieldN_inj {l : List (Nat × Str)} (h1 : (l.map (·.2)).Nodup) (h2 : (l.all fun q => Tab.plainCh q.2) = true) : ∀ a b, fieldN l a = fieldN l b → a = b := fun a b e => by
  unfold fieldN at e
  cases ea : l.lookup a with
  | some x =>
    cases eb : l.lookup b with
    | some y =>
      rw [ea, eb] at e
      have e : x = y := e
      subst e
      exact nodup_lk h1 ea eb
    | none =>
      rw [ea, eb] at e
      exact absurd (show (⟨#[1114112 + b]⟩ : Str) = x from e.symm) (fresh_ne (List.all_eq_true.mp h2 _ (mem_lk ea)) b)
  | none =>
    cases eb : l.lookup b with
    | some y =>
      rw [ea, eb] at e
      exact absurd (show (⟨#[1114112 + a]⟩ : Str) = y from e) (fresh_ne (List.all_eq_true.mp h2 _ (mem_lk eb)) a)
    | none =>
      rw [ea, eb] at e
      have e : (⟨#[1114112 + a]⟩ : Str) = ⟨#[1114112 + b]⟩ := e
      simp at e
      exact e
theorem fieldN_ne {l : List (Nat × Str)} {x : Str} (h1 : x ∉ l.map (·.2)) (h2 : Tab.plainCh x = true) : ∀ j, fieldN l j ≠ x := fun j e => by
  unfold fieldN at e
  cases ea : l.lookup j with
  | some y =>
    rw [ea] at e
    have e : y = x := e
    subst e
    exact h1 (List.mem_map.mpr ⟨_, mem_lk ea, rfl⟩)
  | none =>
    rw [ea] at e
    exact fresh_ne h2 j e
theorem isAt_M {f : Nat} {C m : Str} (h : t.isAt f (Tab.atM C m) = true) : t.ad K f = ma K (ga K C) m := by
  unfold Tab.isAt at h
  split at h
  · rename_i a e
    unfold Tab.ad
    rw [e]
    cases a with
    | meth D k =>
      obtain ⟨h1, h2⟩ := ba h
      rw [← of_decide_eq_true h1, ← of_decide_eq_true h2]
      rfl
    | _ => cases h
  · cases h
theorem isAt_P {f : Nat} {C m : Str} (h : t.isAt f (Tab.atP C m) = true) : t.ad K f = He5.wf K (ga K C) "property" m := by
  unfold Tab.isAt at h
  split at h
  · rename_i a e
    unfold Tab.ad
    rw [e]
    cases a with
    | prop D k =>
      obtain ⟨h1, h2⟩ := ba h
      rw [← of_decide_eq_true h1, ← of_decide_eq_true h2]
      rfl
    | _ => cases h
  · cases h
theorem isAt_C {f : Nat} {C m : Str} (h : t.isAt f (Tab.atC C m) = true) : t.ad K f = He5.wf K (ga K C) "classmethod" m := by
  unfold Tab.isAt at h
  split at h
  · rename_i a e
    unfold Tab.ad
    rw [e]
    cases a with
    | cmet D k =>
      obtain ⟨h1, h2⟩ := ba h
      rw [← of_decide_eq_true h1, ← of_decide_eq_true h2]
      rfl
    | _ => cases h
  · cases h
theorem base_of (X : K.In h) (G : h.Ns mainGlobals mg) (ok : t.ok = true) (fa : t.facts K = true) (hfd : ∀ f d, t.fd.lookup f = some d → ∃ fd ps, FnK (t.gn K) t.tb t.pg K f d (t.ad K f) fd ps) : Base (t.gn K) t.tb t.pg mg (t.ad K) := by
  unfold Tab.ok at ok
  obtain ⟨o1, ok⟩ := ba ok
  obtain ⟨o2, ok⟩ := ba ok
  obtain ⟨o3, ok⟩ := ba ok
  obtain ⟨o4, o5⟩ := ba ok
  have o1 := of_decide_eq_true o1
  have o3 := of_decide_eq_true o3
  unfold Tab.facts at fa
  obtain ⟨f1, fa⟩ := ba fa
  obtain ⟨f2, fa⟩ := ba fa
  obtain ⟨f3, fa⟩ := ba fa
  obtain ⟨f4, fa⟩ := ba fa
  obtain ⟨f5, f6⟩ := ba fa
  have cA : ∀ {c : Nat} {d : ClD}, t.cl.lookup c = some d → (t.gn K).cA c = ga K d.name := fun {c d} e => by
    show (match t.cl.lookup c with | some d => ga K d.name | none => 0) = _
    rw [e]
  have cls : ∀ {c : Nat}, (t.gn K).cs c = true → ∃ d, t.cl.lookup c = some d := fun {c} e => Option.isSome_iff_exists.mp e
  have clO : ∀ {c : Nat} {d : ClD}, t.cl.lookup c = some d → t.clOk d = true := fun {c d} e => List.all_eq_true.mp o4 _ (mem_lk e)
  have clF : ∀ {c : Nat} {d : ClD}, t.cl.lookup c = some d → (He.Fa.glo d.name).ok K = true ∧ t.clsB K d = true := fun {c d} e => ba (List.all_eq_true.mp f3 _ (mem_lk e))
  have nm : ∀ {c c' : Nat} {d d' : ClD}, t.cl.lookup c = some d → t.cl.lookup c' = some d' → d.name = d'.name → c = c' := fun {c c' d d'} e1 e2 z => by
    have k1 : (t.cl.map fun q => (q.1, q.2.name)).lookup c = some d.name := by
      have : ∀ l : List (Nat × ClD), (l.map fun q => (q.1, q.2.name)).lookup c = (l.lookup c).map (·.name) := by
        intro l
        induction l with
        | nil => rfl
        | cons a l ih =>
          rw [List.map_cons, List.lookup_cons, List.lookup_cons]
          cases (c == a.1) <;> simp [ih]
      rw [this, e1]; rfl
    have k2 : (t.cl.map fun q => (q.1, q.2.name)).lookup c' = some d'.name := by
      have : ∀ l : List (Nat × ClD), (l.map fun q => (q.1, q.2.name)).lookup c' = (l.lookup c').map (·.name) := by
        intro l
        induction l with
        | nil => rfl
        | cons a l ih =>
          rw [List.map_cons, List.lookup_cons, List.lookup_cons]
          cases (c' == a.1) <;> simp [ih]
      rw [this, e2]; rfl
    rw [← z] at k2
    refine nodup_lk (l := t.cl.map fun q => (q.1, q.2.name)) ?_ k1 k2
    rw [List.map_map]
    exact o3
  have P : ∀ {c : Nat} {d : ClD}, t.cl.lookup c = some d → (He.Fa.cls d.name).ok K = true ∧ PySem.W.findIn K (.ref (ga K d.name)) "__class__" = some (some (.builtin "object.__class__")) ∧ PySem.W.mroIn K (ga K d.name) (.type "object") = some true ∧
      (∀ s ∈ bts, PySem.W.kitOne K (.type s) (.ref (ga K d.name)) = some false) ∧ (∀ s ∈ bts, PySem.W.kitOne K (.ref (ga K d.name)) (.type s) = some false) ∧
      (∀ n ∈ t.names, PySem.W.kitOne K (.ref (ga K n)) (.ref (ga K d.name)) = some (decide (d.name = n)) ∧ PySem.W.notFirst K (ga K d.name) (.ref (ga K n)) = true) ∧
      (∀ n ∈ d.fk, NoAttr K (ga K d.name) (fieldN t.fl n)) ∧
      (∀ q ∈ d.mt, ∃ x, t.mn.lookup q.1 = some x ∧ (He.Fa.meth d.name x).ok K = true) ∧
      (∀ q ∈ d.om, (He.Fa.meth d.name (omN q.1)).ok K = true ∧ (q.1 = 3 → PySem.W.findIn K (.ref (ga K d.name)) "__ne__" = some (some (.builtin "object.__ne__")))) ∧
      (∀ f, d.ini = some f → (He.Fa.mkr d.name).ok K = true) ∧
      (∀ q ∈ d.pr, ∃ x, t.mn.lookup q.1 = some x ∧ PropOf K (ga K d.name) x (ma K (ga K d.name) x) (He5.wf K (ga K d.name) "property" x)) ∧
      ((d.cc ≠ [] ∨ d.sm ≠ []) → ClX.CRead K (ga K d.name) (.type "type")) ∧
      (∀ q ∈ d.cc, ∃ x i, t.cn.lookup q.1 = some x ∧ q.2 = .int i ∧ ∃ u, ClX.CVal K (ga K d.name) (.type "type") x (.int i) u) ∧
      (∀ q ∈ d.sm, ∃ x, t.mn.lookup q.1 = some x ∧ ClX.CMet K (ga K d.name) (.type "type") x (ma K (ga K d.name) x) (He5.wf K (ga K d.name) "classmethod" x)) := fun {c d} e => by
    have z := (clF e).2
    unfold Tab.clsB at z
    obtain ⟨z1, z⟩ := ba z
    obtain ⟨z2, z⟩ := ba z
    obtain ⟨z3, z⟩ := ba z
    obtain ⟨z4, z⟩ := ba z
    obtain ⟨z5, z⟩ := ba z
    obtain ⟨z6, z⟩ := ba z
    obtain ⟨z7, z⟩ := ba z
    obtain ⟨z8, z⟩ := ba z
    obtain ⟨z9, z⟩ := ba z
    obtain ⟨z10, z⟩ := ba z
    obtain ⟨z11, z⟩ := ba z
    obtain ⟨z12, z⟩ := ba z
    obtain ⟨z13, z14⟩ := ba z
    refine ⟨z1, eqO_ok z2, of_decide_eq_true z3, fun s hs => of_decide_eq_true (List.all_eq_true.mp z4 s hs), fun s hs => of_decide_eq_true (List.all_eq_true.mp z5 s hs), fun n hn => ?_, fun n hn => He.noat_ok (List.all_eq_true.mp z7 n hn), fun q hq => ?_, fun q hq => ?_, fun f hf => ?_, fun q hq => ?_, fun hne => ?_, fun q hq => ?_, fun q hq => ?_⟩
    · obtain ⟨q1, q2⟩ := ba (List.all_eq_true.mp z6 n hn)
      exact ⟨of_decide_eq_true q1, q2⟩
    · have := List.all_eq_true.mp z8 q hq
      split at this
      · rename_i x ex; exact ⟨x, ex, this⟩
      · cases this
    · obtain ⟨q1, q2⟩ := ba (List.all_eq_true.mp z9 q hq)
      refine ⟨q1, fun e3 => ?_⟩
      rw [e3] at q2
      exact eqO_ok (by simpa using q2)
    · rw [hf] at z10; exact z10
    · have := List.all_eq_true.mp z11 q hq
      split at this
      · rename_i x ex
        obtain ⟨q1, this⟩ := ba this
        obtain ⟨q2, this⟩ := ba this
        obtain ⟨q3, q4⟩ := ba this
        refine ⟨x, ex, eqO_ok q1, eqO_ok q2, of_decide_eq_true q3, ?_⟩
        unfold He5.wf
        split at q4
        · rename_i a r er
          exact ⟨r, by rw [er]⟩
        · cases q4
      · cases this
    · have hr : PySem.W.readsIn K (ga K d.name) (.type "type") = true := by
        rcases Bool.or_eq_true_iff.mp z12 with q | q
        · obtain ⟨q1, q2⟩ := ba q
          rcases hne with w | w
          · exact absurd (by simpa using q1) w
          · exact absurd (by simpa using q2) w
        · exact q
      refine ⟨hr, ?_⟩
      have h := hr
      unfold PySem.W.readsIn at h
      obtain ⟨h, _⟩ := ba h
      obtain ⟨h, _⟩ := ba h
      obtain ⟨h, h3⟩ := ba h
      obtain ⟨_, h2⟩ := ba h
      unfold PySem.W.specialIn
      rw [beq_iff_eq.mp h2, Option.bind_some]
      exact beq_iff_eq.mp h3
    · have := List.all_eq_true.mp z13 q hq
      split at this
      · rename_i x i ex ei
        split at this
        · rename_i j tk ej
          have := of_decide_eq_true this
          subst this
          exact ⟨x, j, ex, ei, _, ⟨ej, ⟨_, rfl⟩⟩⟩
        · cases this
      · cases this
    · have := List.all_eq_true.mp z14 q hq
      split at this
      · rename_i x ex
        obtain ⟨q1, q2⟩ := ba this
        exact ⟨x, ex, He5.cmet_of q1 q2⟩
      · cases this
  have bind2 : ∀ {α : Type} {c : Nat} {o : ClD → Option α} {x : α}, (t.cl.lookup c).bind o = some x → ∃ d, t.cl.lookup c = some d ∧ o d = some x := fun {α c o x} e => Option.bind_eq_some_iff.mp e
  exact {
    kf := {
      inj := fieldN_inj o1 o2
      cls := fun c hc => by
        obtain ⟨d, e⟩ := cls hc
        rw [cA e]; exact He.cls_ok (P e).1
      nf := fun c c' hc hc' => by
        obtain ⟨d, e⟩ := cls hc
        obtain ⟨d', e'⟩ := cls hc'
        rw [cA e, cA e']
        exact ((P e).2.2.2.2.2.1 d'.name (List.mem_map.mpr ⟨_, mem_lk e', rfl⟩)).2
      co := fun c hc => by
        obtain ⟨d, e⟩ := cls hc
        rw [cA e]; exact (P e).2.1
      cg := fun c hc => eqO_ok f1
      ct := fun c hc => of_decide_eq_true f2
      cm := fun c hc => by
        obtain ⟨d, e⟩ := cls hc
        rw [cA e]; exact (P e).2.2.1
      k1 := fun c hc s hs => by
        obtain ⟨d, e⟩ := cls hc
        rw [cA e]; exact (P e).2.2.2.1 s hs
      k2 := fun c c' hc hc' => by
        obtain ⟨d, e⟩ := cls hc
        obtain ⟨d', e'⟩ := cls hc'
        rw [cA e, cA e']
        have := ((P e).2.2.2.2.2.1 d'.name (List.mem_map.mpr ⟨_, mem_lk e', rfl⟩)).1
        rw [show (t.gn K).K = K from rfl, this]
        congr 1
        by_cases z : c = c'
        · subst z
          rw [e] at e'
          cases e'
          simp
        · have : d.name ≠ d'.name := fun w => z (nm e e' w)
          simp [z, this]
      k3 := fun c hc s hs => by
        obtain ⟨d, e⟩ := cls hc
        rw [cA e]; exact (P e).2.2.2.2.1 s hs }
    bl := fun x hx => by
      refine He.free_ok X G (List.all_eq_true.mp f5 (Str.ofString x) ?_)
      have : Tab.builtL = (["isinstance", "range", "zip", "len", "int", "abs", "list", "tuple", "all", "any", "sum", "str", "bool", "dict", "enumerate", "sorted", "min", "max", "set", "type", "repr"] : List String).map Str.ofString := rfl
      rw [this]
      exact List.mem_map.mpr ⟨x, hx, rfl⟩
    gl := fun n x hx => by
      have z := List.all_eq_true.mp f6 _ (mem_lk hx)
      show ∃ v u, mg x = some u ∧ RelV v u ∧ ∀ F, RP (t.gn K) F ((t.gv.lookup n).getD .non) v
      unfold Tab.glB at z
      split at z
      · rename_i i ei
        obtain ⟨tk, e⟩ := He.int_ok X G z
        have ei : (t.gv.lookup n).getD .non = .int i := ei
        exact ⟨.int i, _, e, ⟨tk, rfl⟩, fun F => by rw [ei]; exact RP.int i⟩
      · rename_i s es
        obtain ⟨z1, z2⟩ := ba z
        obtain ⟨tk, e⟩ := He.str_ok X G z1
        have es : (t.gv.lookup n).getD .non = .str s := es
        exact ⟨.str s, _, e, ⟨tk, rfl⟩, fun F => by rw [es]; exact RP.str s (Nat.le_trans (of_decide_eq_true z2) (by rw [PySem.sizeLine_eq]; decide))⟩
      · cases z
    cn := fun n x hx => by
      obtain ⟨d, e, rfl⟩ := Option.map_eq_some_iff.mp (show (t.cl.lookup n).map (·.name) = some x from hx)
      refine ⟨?_, ?_⟩
      · rw [cA e]; exact He.glo_ok X G (clF e).1
      · show (t.cl.lookup n).isSome = true
        rw [e]; rfl
    fd := hfd
    fn := fun f x hx => by
      have z := List.all_eq_true.mp o5 _ (mem_lk hx)
      obtain ⟨z1, z2⟩ := ba z
      refine ⟨?_, Option.isSome_iff_exists.mp z2⟩
      have g1 := He.glo_ok X G (List.all_eq_true.mp f4 _ (mem_lk hx))
      rw [g1]
      split at z1
      · rename_i y ey
        have := of_decide_eq_true z1
        have ea : t.ad K f = ga K y := by unfold Tab.ad; rw [show t.at_.lookup f = some (.glo y) from ey]; rfl
        rw [ea, this]
      · cases z1
    fl := fun n x hx => by
      show fieldN t.fl n = x
      unfold fieldN
      rw [show t.fl.lookup n = some x from hx]; rfl
    fk := fun c n hn => by
      have hn : (match t.cl.lookup c with | some d => decide (n ∈ d.fk) | none => false) = true := hn
      split at hn
      · rename_i d e
        rw [cA e]
        exact (P e).2.2.2.2.2.2.1 n (of_decide_eq_true hn)
      · cases hn
    mt := fun c n f x h1 h2 => by
      obtain ⟨d, e, em⟩ := bind2 h1
      have h2 : t.mn.lookup n = some x := h2
      have o := clO e
      unfold Tab.clOk at o
      have o := List.all_eq_true.mp (ba o).1 _ (mem_lk em)
      dsimp only at o
      rw [h2] at o
      obtain ⟨o, q3⟩ := ba o
      obtain ⟨q1, q2⟩ := ba o
      refine ⟨fieldN_ne (of_decide_eq_true q2) q3, ?_⟩
      obtain ⟨x', e1, e2⟩ := (P e).2.2.2.2.2.2.2.1 _ (mem_lk em)
      rw [h2] at e1
      cases e1
      rw [cA e, isAt_M q1]
      exact He.meth_ok e2
    pr := fun c n f x h1 h2 => by
      obtain ⟨d, e, em⟩ := bind2 h1
      have h2 : t.mn.lookup n = some x := h2
      have o := clO e
      unfold Tab.clOk at o
      have o := List.all_eq_true.mp (ba (ba o).2).1 _ (mem_lk em)
      dsimp only at o
      rw [h2] at o
      obtain ⟨x', e1, e2⟩ := (P e).2.2.2.2.2.2.2.2.2.2.1 _ (mem_lk em)
      rw [h2] at e1
      cases e1
      refine ⟨ma K (ga K d.name) x, ?_⟩
      rw [cA e, isAt_P o]
      exact e2
    ini := fun c f h1 => by
      obtain ⟨d, e, em⟩ := bind2 h1
      refine ⟨by show (t.cl.lookup c).isSome = true; rw [e]; rfl, ?_⟩
      have o := clO e
      unfold Tab.clOk at o
      have o := (ba (ba (ba o).2).2).1
      rw [em] at o
      rw [cA e, isAt_M o]
      exact He.mkr_ok ((P e).2.2.2.2.2.2.2.2.2.1 f em)
    om := fun c k f h1 => by
      obtain ⟨d, e, em⟩ := bind2 h1
      have o := clO e
      unfold Tab.clOk at o
      have o := List.all_eq_true.mp (ba (ba (ba (ba o).2).2).2).1 _ (mem_lk em)
      have mk := He.meth_ok ((P e).2.2.2.2.2.2.2.2.1 _ (mem_lk em)).1
      rw [cA e, isAt_M o]
      exact ⟨mk.at_, mk.fn⟩
    one := fun c f h1 => by
      obtain ⟨d, e, em⟩ := bind2 h1
      rw [cA e]
      exact ((P e).2.2.2.2.2.2.2.2.1 _ (mem_lk em)).2 rfl
    cc := fun c n x y h1 h2 => by
      obtain ⟨d, e, em⟩ := bind2 h1
      have h2 : t.cn.lookup n = some x := h2
      obtain ⟨x', i, e1, e2, u, e3⟩ := (P e).2.2.2.2.2.2.2.2.2.2.2.2.1 _ (mem_lk em)
      rw [h2] at e1
      cases e1
      have e2 : y = .int i := e2
      subst e2
      rw [cA e]
      exact ⟨.type "type", .int i, u, (P e).2.2.2.2.2.2.2.2.2.2.2.1 (.inl (List.ne_nil_of_mem (mem_lk em))), e3, fun F => RP.int i⟩
    sm := fun c n f b x h1 h2 => by
      obtain ⟨f', e0, e9⟩ := Option.map_eq_some_iff.mp (show ((t.cl.lookup c).bind fun d => d.sm.lookup n).map (fun f => (f, true)) = some (f, b) from h1)
      cases e9
      obtain ⟨d, e, em⟩ := bind2 e0
      have h2 : t.mn.lookup n = some x := h2
      have o := clO e
      unfold Tab.clOk at o
      have o := List.all_eq_true.mp (ba (ba (ba (ba o).2).2).2).2 _ (mem_lk em)
      dsimp only at o
      rw [h2] at o
      obtain ⟨x', e1, e2⟩ := (P e).2.2.2.2.2.2.2.2.2.2.2.2.2 _ (mem_lk em)
      rw [h2] at e1
      cases e1
      rw [cA e, isAt_C o]
      exact ⟨.type "type", ma K (ga K d.name) x, (P e).2.2.2.2.2.2.2.2.2.2.2.1 (.inr (List.ne_nil_of_mem (mem_lk em))), rfl, e2⟩ }
end
theorem kw_all {t : Tab} {f : Nat} {C : Nat → List Str → List Nat → Prop} (hc : ∀ q ∈ t.kw, q.1 = f → C q.2.1 q.2.2.1 q.2.2.2) : ∀ np ks pm, t.tb.kw f np ks = some pm → C np ks pm := by
  intro np ks pm h
  have h : (t.kw.find? fun q => decide (q.1 = f ∧ q.2.1 = np ∧ q.2.2.1 = ks)).map (·.2.2.2) = some pm := h
  obtain ⟨q, e1, rfl⟩ := Option.map_eq_some_iff.mp h
  have e2 := List.find?_some e1
  obtain ⟨rfl, rfl, rfl⟩ := of_decide_eq_true e2
  exact hc q (List.mem_of_find?_eq_some e1) rfl
/-! ### the Hook -/
abbrev AlH : Type := He.AlD × Bool
def obsH (n : Nat) (fn : List He5.DefA) (ex : PySem.W.Frag → Bool) (g : Addr → Option Obj) : AlH := (He5.obsA [] fn (He.frG g (He5.asA g n)), ex (He.frG g (He5.asA g n)))
def hookH (n : Nat) (fn : List He5.DefA) (ex : PySem.W.Frag → Bool) : PySem.W.Hook where
  α := AlH
  obs := fun s => obsH n fn ex s.heap.get?
  val := fun _ => (He5.valA fn, true)
  says := fun _ h => ∃ K : PySem.W.Frag, K.In h ∧ He5.SaysA [] fn K ∧ ex K = true
  of := fun _ _ e => ⟨_, He.frG_in, congrArg (fun z : AlH => z.1) e, congrArg (fun z : AlH => z.2) e⟩
  keeps := fun _ _ _ ⟨K, hK, c⟩ k => ⟨K, PySem.W.Frag.In.keeps hK k, c⟩
theorem obsH_eq {n : Nat} {fn : List He5.DefA} {ex : PySem.W.Frag → Bool} {g : Addr → Option Obj} {s : Shared} (h : ∀ a, g a = s.heap.get? a) : obsH n fn ex g = (hookH n fn ex).obs s := by
  have e : g = s.heap.get? := funext h
  rw [e] <;> rfl
end Dn

/-! Dn, part T: defs that many laws share, copied. -/
noncomputable section
namespace Dn
/-! is_number -/
def B_is_number_0 : RB := .cons (.ret (.and (.isi (.var 0) true [.int]) (.not (.isi (.var 0) true [.bool])))) .nil
def D_is_number : FD := ⟨1, 1, [], false, B_is_number_0⟩
/-! is_name -/
def B_is_name_0 : RB := .cons (.ret (.bcl .all (.cons (.lc false (.cmp .inn (.var 1) (.glo 0)) (.nm 1) (.seq (.var 0)) .none [1]) .nil))) .nil
def B_is_name_1 : RB := .cons (.ret (.cst (.bl false))) .nil
def B_is_name_2 : RB := .cons (.ite (.or (.not (.isi (.var 0) true [.str])) (.not (.cmp2 .le .le (.cst (.int 1)) (.bcl .len (.cons (.var 0) .nil)) (.glo 1)))) B_is_name_1 .nil) B_is_name_0
def D_is_name : FD := ⟨1, 2, [], false, B_is_name_2⟩
/-! _law_bag -/
def B__law_bag_0 : RB := .cons (.ret (.lst true (.cons (.bcl .list (.cons (.sl (.var 0) .none (.some (.cst (.int 63)))) .nil)) (.cons (.cst (.int 0)) (.cons (.cst (.int 0)) (.cons (.cst (.int 4914)) (.cons (.cst (.int 0)) .nil))))))) .nil
def D__law_bag : FD := ⟨1, 1, [], false, B__law_bag_0⟩
/-! _law_pull -/
def B__law_pull_0 : RB := .cons (.ret (.bin .mod (.bcl .int (.cons (.bin .add (.bin .fdiv (.ix (.var 0) (.cst (.int 3))) (.cst (.int 83))) (.bin .mul (.bin .mod (.bcl .int (.cons (.ix (.var 0) (.cst (.int 3))) .nil)) (.cst (.int 8111))) (.cst (.int 73)))) .nil)) (.var 1))) .nil
def B__law_pull_1 : RB := .cons (.iset (.var 0) (.cst (.int 3)) (.bin .mod (.bcl .int (.cons (.bin .add (.bin .mul (.bin .mul (.var 2) (.var 2)) (.cst (.int 11))) (.var 3)) .nil)) (.cst (.int 2147483587)))) B__law_pull_0
def B__law_pull_2 : RB := .cons (.set 3 (.bin .add (.bin .add (.bin .mul (.var 2) (.cst (.int 48731))) (.bin .mul (.ix (.var 0) (.cst (.int 4))) (.cst (.int 131071)))) (.cst (.int 77003)))) B__law_pull_1
def B__law_pull_3 : RB := .cons (.set 2 (.ix (.var 0) (.cst (.int 3)))) B__law_pull_2
def B__law_pull_4 : RB := .cons (.ret (.var 5)) .nil
def B__law_pull_5 : RB := .cons (.iset (.var 0) (.cst (.int 2)) (.bin .fdiv (.ix (.var 0) (.cst (.int 2))) (.var 1))) B__law_pull_4
def B__law_pull_6 : RB := .cons (.set 5 (.bin .mod (.bcl .int (.cons (.ix (.var 0) (.cst (.int 2))) .nil)) (.var 1))) B__law_pull_5
def B__law_pull_7 : RB := .cons (.ite (.cmp .gt (.ix (.var 0) (.cst (.int 2))) (.cst (.int 0))) B__law_pull_6 .nil) B__law_pull_3
def B__law_pull_8 : RB := .cons (.iset (.var 0) (.cst (.int 2)) (.bcl .abs (.cons (.var 4) .nil))) .nil
def B__law_pull_9 : RB := .cons (.iset (.var 0) (.cst (.int 3)) (.bin .mod (.bcl .int (.cons (.bin .add (.bin .mul (.ix (.var 0) (.cst (.int 3))) (.cst (.int 40009))) (.var 6)) .nil)) (.cst (.int 2147483587)))) .nil
def B__law_pull_10 : RB := .cons (.set 6 (.bin .add (.bin .mul (.bin .mod (.bcl .int (.cons (.var 4) .nil)) (.cst (.int 998244353))) (.cst (.int 30011))) (.cst (.int 59)))) B__law_pull_9
def B__law_pull_11 : RB := .cons (.ite (.cmp .ge (.bcl .abs (.cons (.var 4) .nil)) (.bin .pow (.cst (.int 10)) (.cst (.int 18)))) B__law_pull_8 B__law_pull_10) .nil
def B__law_pull_12 : RB := .cons (.iset (.var 0) (.cst (.int 1)) (.bin .add (.ix (.var 0) (.cst (.int 1))) (.cst (.int 1)))) B__law_pull_11
def B__law_pull_13 : RB := .cons (.set 4 (.ix (.ix (.var 0) (.cst (.int 0))) (.ix (.var 0) (.cst (.int 1))))) B__law_pull_12
def B__law_pull_14 : RB := .cons (.ite (.and (.cmp .eq (.ix (.var 0) (.cst (.int 2))) (.cst (.int 0))) (.cmp .lt (.ix (.var 0) (.cst (.int 1))) (.bcl .len (.cons (.ix (.var 0) (.cst (.int 0))) .nil)))) B__law_pull_13 .nil) B__law_pull_7
def B__law_pull_15 : RB := .cons (.iset (.var 0) (.cst (.int 4)) (.bin .add (.ix (.var 0) (.cst (.int 4))) (.cst (.int 1)))) B__law_pull_14
def D__law_pull : FD := ⟨2, 7, [], false, B__law_pull_15⟩
/-! _law_of -/
def B__law_of_0 : RB := .cons (.ret (.ix (.var 1) (.call 3 (.cons (.var 0) (.cons (.bcl .len (.cons (.var 1) .nil)) .nil))))) .nil
def D__law_of : FD := ⟨2, 2, [], false, B__law_of_0⟩
/-! _law_same -/
def B__law_same_0 : RB := .cons (.ret (.and (.cmp .eq (.isi (.var 1) true [.str]) (.isi (.var 0) true [.str])) (.cmp .eq (.var 0) (.var 1)))) .nil
def B__law_same_1 : RB := .cons (.ret (.cst (.bl false))) .nil
def B__law_same_2 : RB := .cons (.ite (.cmp .ne (.isi (.var 1) true [.int]) (.isi (.var 0) true [.int])) B__law_same_1 .nil) B__law_same_0
def B__law_same_3 : RB := .cons (.ret (.bcl .all (.cons (.lc false (.call 5 (.cons (.var 2) (.cons (.var 3) .nil))) (.tp (.cons (.nm 2) (.cons (.nm 3) .nil))) (.zip (.var 0) (.var 1)) .none [2, 3]) .nil))) .nil
def B__law_same_4 : RB := .cons (.ret (.cst (.bl false))) .nil
def B__law_same_5 : RB := .cons (.ite (.or (.cmp .ne (.isi (.var 1) true [.tuple]) (.isi (.var 0) true [.tuple])) (.cmp .ne (.bcl .len (.cons (.var 0) .nil)) (.bcl .len (.cons (.var 1) .nil)))) B__law_same_4 .nil) B__law_same_3
def B__law_same_6 : RB := .cons (.ret (.cst (.bl false))) .nil
def B__law_same_7 : RB := .cons (.ite (.cmp .ne (.isi (.var 1) true [.list]) (.isi (.var 0) true [.list])) B__law_same_6 .nil) B__law_same_5
def B__law_same_8 : RB := .cons (.ite (.or (.isi (.var 1) false [.list, .tuple]) (.isi (.var 0) false [.list, .tuple])) B__law_same_7 .nil) B__law_same_2
def B__law_same_9 : RB := .cons (.ret (.and (.isi (.var 1) true [.bool]) (.and (.isi (.var 0) true [.bool]) (.cmp .eq (.var 0) (.var 1))))) .nil
def B__law_same_10 : RB := .cons (.ite (.or (.isi (.var 1) true [.bool]) (.isi (.var 0) true [.bool])) B__law_same_9 .nil) B__law_same_8
def B__law_same_11 : RB := .cons (.ret (.and (.cmp .isn (.var 1) (.cst .non)) (.cmp .isn (.var 0) (.cst .non)))) .nil
def B__law_same_12 : RB := .cons (.ite (.or (.cmp .isn (.var 1) (.cst .non)) (.cmp .isn (.var 0) (.cst .non))) B__law_same_11 .nil) B__law_same_10
def D__law_same : FD := ⟨2, 4, [], false, B__law_same_12⟩
/-! _law_words -/
def B__law_words_0 : RB := .cons (.ret (.lc false (.bin .add (.bin .add (.sl (.var 3) .none (.some (.var 4))) (.ix (.var 2) (.bin .mod (.bcl .int (.cons (.bin .add (.var 5) (.bin .mul (.cst (.int 7)) (.var 6))) .nil)) (.cst (.int 26))))) (.sl (.var 3) (.some (.var 4)) .none)) (.nm 6) (.rng (.var 1)) .none [6])) .nil
def B__law_words_1 : RB := .cons (.par [4, 5] (.cons (.call 3 (.cons (.var 0) (.cons (.bin .add (.bcl .len (.cons (.var 3) .nil)) (.cst (.int 1))) .nil))) (.cons (.call 3 (.cons (.var 0) (.cons (.cst (.int 26)) .nil))) .nil))) B__law_words_0
def B__law_words_2 : RB := .cons (.set 3 (.bmt .join (.cst (.str "")) (.cons (.lc false (.call 4 (.cons (.var 0) (.cons (.var 2) .nil))) (.nm 6) (.rng (.call 3 (.cons (.var 0) (.cons (.cst (.int 6)) .nil)))) .none [6]) .nil))) B__law_words_1
def B__law_words_3 : RB := .cons (.set 2 (.cst (.str "abcdefghijklmnopqrstuvwxyz"))) B__law_words_2
def D__law_words : FD := ⟨2, 7, [], false, B__law_words_3⟩
/-! Signature.__init__ -/
def B_Signature_dd__init_dd__0 : RB := .cons (.fset (.var 0) 0 (.dcm false (.var 3) (.tup (.cons (.var 4) (.cons (.var 5) .nil))) (.tp (.cons (.nm 3) (.cons (.nm 4) (.cons (.nm 5) .nil)))) (.seq (.var 2)) .none [3, 4, 5])) .nil
def B_Signature_dd__init_dd__1 : RB := .cons (.fset (.var 0) 1 (.bcl .tuple (.cons (.var 2) .nil))) B_Signature_dd__init_dd__0
def B_Signature_dd__init_dd__2 : RB := .cons (.fset (.var 0) 2 (.bcl .tuple (.cons (.var 1) .nil))) B_Signature_dd__init_dd__1
def B_Signature_dd__init_dd__3 : RB := .cons .wall .nil
def B_Signature_dd__init_dd__4 : RB := .cons (.ite (.not (.call 24 (.cons (.lc false (.ix (.var 6) (.cst (.int 0))) (.nm 6) (.seq (.var 2)) .none [6]) .nil))) B_Signature_dd__init_dd__3 .nil) B_Signature_dd__init_dd__2
def B_Signature_dd__init_dd__5 : RB := .cons .wall .nil
def B_Signature_dd__init_dd__6 : RB := .cons (.ite (.not (.bcl .all (.cons (.lc false (.call 25 (.cons (.var 6) (.cons (.var 1) .nil))) (.nm 6) (.seq (.var 2)) .none [6]) .nil))) B_Signature_dd__init_dd__5 .nil) B_Signature_dd__init_dd__4
def B_Signature_dd__init_dd__7 : RB := .cons .wall .nil
def B_Signature_dd__init_dd__8 : RB := .cons (.ite (.or (.not (.call 26 (.cons (.var 2) .nil))) (.not (.cmp2 .le .le (.cst (.int 1)) (.bcl .len (.cons (.var 2) .nil)) (.ccon 0 0)))) B_Signature_dd__init_dd__7 .nil) B_Signature_dd__init_dd__6
def B_Signature_dd__init_dd__9 : RB := .cons .wall .nil
def B_Signature_dd__init_dd__10 : RB := .cons (.ite (.or (.not (.bcl .all (.cons (.lc false (.call 1 (.cons (.var 7) .nil)) (.nm 7) (.seq (.var 1)) .none [7]) .nil))) (.not (.call 24 (.cons (.var 1) .nil)))) B_Signature_dd__init_dd__9 .nil) B_Signature_dd__init_dd__8
def B_Signature_dd__init_dd__11 : RB := .cons .wall .nil
def B_Signature_dd__init_dd__12 : RB := .cons (.ite (.or (.not (.call 26 (.cons (.var 1) .nil))) (.not (.cmp2 .le .le (.cst (.int 1)) (.bcl .len (.cons (.var 1) .nil)) (.ccon 0 1)))) B_Signature_dd__init_dd__11 .nil) B_Signature_dd__init_dd__10
def D_Signature_dd__init_dd_ : FD := ⟨3, 8, [], false, B_Signature_dd__init_dd__12⟩
/-! Signature.__len__ -/
def B_Signature_dd__len_dd__0 : RB := .cons (.ret (.bcl .len (.cons (.fld (.var 0) 1) .nil))) .nil
def D_Signature_dd__len_dd_ : FD := ⟨1, 1, [], false, B_Signature_dd__len_dd__0⟩
/-! Signature.__repr__ -/
def B_Signature_dd__repr_dd__0 : RB := .cons (.ret (.fstr (.cons (.cst (.str "Signature(")) (.cons (.fmt (.bcl .len (.cons (.fld (.var 0) 2) .nil))) (.cons (.cst (.str " sorts, ")) (.cons (.fmt (.bcl .len (.cons (.fld (.var 0) 1) .nil))) (.cons (.cst (.str " operations)")) .nil))))))) .nil
def D_Signature_dd__repr_dd_ : FD := ⟨1, 1, [], false, B_Signature_dd__repr_dd__0⟩
/-! Signature.__contains__ -/
def B_Signature_dd__contains_dd__0 : RB := .cons (.ret (.and (.isi (.var 1) true [.str]) (.cmp .inn (.var 1) (.fld (.var 0) 0)))) .nil
def D_Signature_dd__contains_dd_ : FD := ⟨2, 2, [], false, B_Signature_dd__contains_dd__0⟩
/-! Signature.__eq__ -/
def B_Signature_dd__eq_dd__0 : RB := .cons (.ret (.and (.cmp .eq (.fld (.var 0) 2) (.fld (.var 1) 2)) (.cmp .eq (.fld (.var 0) 1) (.fld (.var 1) 1)))) .nil
def B_Signature_dd__eq_dd__1 : RB := .cons (.ret (.cst (.bl false))) .nil
def B_Signature_dd__eq_dd__2 : RB := .cons (.ite (.not (.isi (.var 1) true [(.own 0)])) B_Signature_dd__eq_dd__1 .nil) B_Signature_dd__eq_dd__0
def D_Signature_dd__eq_dd_ : FD := ⟨2, 2, [], false, B_Signature_dd__eq_dd__2⟩
/-! _law_sig -/
def B__law_sig_0 : RB := .cons (.ret (.frz (.make 0 (.cons (.bcl .list (.cons (.ix (.var 0) (.cst (.int 0))) .nil)) (.cons (.bcl .list (.cons (.ix (.var 0) (.cst (.int 1))) .nil)) .nil))))) .nil
def D__law_sig : FD := ⟨1, 1, [], false, B__law_sig_0⟩
/-! _law_apart -/
def B__law_apart_0 : RB := .cons (.ret (.cmp .ne (.frz (.make 0 (.cons (.lst false (.cons (.cst (.str "s")) (.cons (.cst (.str "t")) .nil))) (.cons (.sl (.var 0) .none (.some (.cst (.int 1)))) .nil)))) (.frz (.make 0 (.cons (.lst false (.cons (.cst (.str "s")) (.cons (.cst (.str "t")) .nil))) (.cons (.sl (.var 0) (.some (.cst (.int 1))) .none) .nil)))))) .nil
def B__law_apart_1 : RB := .cons (.set 0 (.lst false (.cons (.tup (.cons (.cst (.str "f")) (.cons (.tup (.cons (.cst (.str "s")) .nil)) (.cons (.cst (.str "s")) .nil)))) (.cons (.tup (.cons (.cst (.str "f")) (.cons (.tup (.cons (.cst (.str "s")) .nil)) (.cons (.cst (.str "t")) .nil)))) .nil)))) B__law_apart_0
def D__law_apart : FD := ⟨0, 1, [], false, B__law_apart_1⟩
/-! Signature.result -/
def B_Signature_result_0 : RB := .cons (.ret (.ix (.ix (.fld (.var 0) 0) (.var 1)) (.cst (.int 1)))) .nil
def B_Signature_result_1 : RB := .cons (.ex (.meth (.var 0) 8 (.cons (.var 1) .nil))) B_Signature_result_0
def D_Signature_result : FD := ⟨2, 2, [], false, B_Signature_result_1⟩
/-! Signature.arguments -/
def B_Signature_arguments_0 : RB := .cons (.ret (.ix (.ix (.fld (.var 0) 0) (.var 1)) (.cst (.int 0)))) .nil
def B_Signature_arguments_1 : RB := .cons (.ex (.meth (.var 0) 8 (.cons (.var 1) .nil))) B_Signature_arguments_0
def D_Signature_arguments : FD := ⟨2, 2, [], false, B_Signature_arguments_1⟩
/-! Signature.names -/
def B_Signature_names_0 : RB := .cons (.ret (.bcl .list (.cons (.fld (.var 0) 0) .nil))) .nil
def D_Signature_names : FD := ⟨1, 1, [], false, B_Signature_names_0⟩
/-! Signature.operations -/
def B_Signature_operations_0 : RB := .cons (.ret (.bcl .list (.cons (.fld (.var 0) 1) .nil))) .nil
def D_Signature_operations : FD := ⟨1, 1, [], false, B_Signature_operations_0⟩
/-! Signature.sorts -/
def B_Signature_sorts_0 : RB := .cons (.ret (.bcl .list (.cons (.fld (.var 0) 2) .nil))) .nil
def D_Signature_sorts : FD := ⟨1, 1, [], false, B_Signature_sorts_0⟩
/-! Signature.names! -/
def B_Signature_namesM_0 : RB := .cons (.ret (.bcl .listM (.cons (.fld (.var 0) 0) .nil))) .nil
def D_Signature_namesM : FD := ⟨1, 1, [], false, B_Signature_namesM_0⟩
/-! Signature.operations! -/
def B_Signature_operationsM_0 : RB := .cons (.ret (.bcl .listM (.cons (.fld (.var 0) 1) .nil))) .nil
def D_Signature_operationsM : FD := ⟨1, 1, [], false, B_Signature_operationsM_0⟩
/-! Signature.sorts! -/
def B_Signature_sortsM_0 : RB := .cons (.ret (.bcl .listM (.cons (.fld (.var 0) 2) .nil))) .nil
def D_Signature_sortsM : FD := ⟨1, 1, [], false, B_Signature_sortsM_0⟩
/-! _law_any_sig -/
def B__law_any_sig_0 : RB := .cons (.ret (.lst false (.cons (.var 3) (.cons (.frz (.var 1)) .nil)))) .nil
def B__law_any_sig_1 : RB := .cons (.ex (.bmt .append (.var 1) (.cons (.tup (.cons (.var 2) (.cons (.var 5) (.cons (.call 4 (.cons (.var 0) (.cons (.var 3) .nil))) .nil)))) .nil))) .nil
def B__law_any_sig_2 : RB := .cons (.set 5 (.bcl .tuple (.cons (.lc false (.call 4 (.cons (.var 0) (.cons (.var 3) .nil))) (.nm 6) (.rng (.call 3 (.cons (.var 0) (.cons (.cst (.int 4)) .nil)))) .none [6]) .nil))) B__law_any_sig_1
def B__law_any_sig_3 : RB := .cons (.forr (.nm 2) (.seq (.var 4)) B__law_any_sig_2) B__law_any_sig_0
def B__law_any_sig_4 : RB := .cons (.set 1 (.lst true .nil)) B__law_any_sig_3
def B__law_any_sig_5 : RB := .cons (.par [3, 4] (.cons (.call 6 (.cons (.var 0) (.cons (.bin .add (.cst (.int 1)) (.call 3 (.cons (.var 0) (.cons (.cst (.int 3)) .nil)))) .nil))) (.cons (.call 6 (.cons (.var 0) (.cons (.bin .add (.cst (.int 1)) (.call 3 (.cons (.var 0) (.cons (.cst (.int 5)) .nil)))) .nil))) .nil))) B__law_any_sig_4
def D__law_any_sig : FD := ⟨1, 7, [], false, B__law_any_sig_5⟩
/-! are_different -/
def B_are_different_0 : RB := .cons (.ret (.not (.bcl .any (.cons (.lc false (.cmp .inn (.var 2) (.sl (.var 0) .none (.some (.var 1)))) (.tp (.cons (.nm 1) (.cons (.nm 2) .nil))) (.enum (.var 0)) .none [1, 2]) .nil)))) .nil
def D_are_different : FD := ⟨1, 3, [], false, B_are_different_0⟩
/-! is_operation -/
def B_is_operation_0 : RB := .cons (.ret (.and (.cmp .le (.bcl .len (.cons (.ix (.var 0) (.cst (.int 1))) .nil)) (.glo 2)) (.call 28 (.cons (.lst false (.star (.ix (.var 0) (.cst (.int 1))) (.cons (.ix (.var 0) (.cst (.int 2))) .nil))) (.cons (.var 1) .nil))))) .nil
def B_is_operation_1 : RB := .cons (.ret (.cst (.bl false))) .nil
def B_is_operation_2 : RB := .cons (.ite (.or (.not (.isi (.var 0) true [.tuple])) (.or (.cmp .ne (.bcl .len (.cons (.var 0) .nil)) (.cst (.int 3))) (.or (.not (.call 1 (.cons (.ix (.var 0) (.cst (.int 0))) .nil))) (.not (.isi (.ix (.var 0) (.cst (.int 1))) true [.tuple]))))) B_is_operation_1 .nil) B_is_operation_0
def D_is_operation : FD := ⟨2, 2, [], false, B_is_operation_2⟩
/-! is_listed -/
def B_is_listed_0 : RB := .cons (.ret (.isi (.var 0) false [.list, .tuple])) .nil
def D_is_listed : FD := ⟨1, 1, [], false, B_is_listed_0⟩
/-! Signature.need -/
def B_Signature_need_0 : RB := .cons .wall .nil
def B_Signature_need_1 : RB := .cons (.ite (.or (.not (.isi (.var 1) true [.str])) (.cmp .nin (.var 1) (.fld (.var 0) 0))) B_Signature_need_0 .nil) .nil
def D_Signature_need : FD := ⟨2, 2, [], false, B_Signature_need_1⟩
/-! are_sorts -/
def B_are_sorts_0 : RB := .cons (.ret (.bcl .all (.cons (.lc false (.and (.isi (.var 2) true [.str]) (.cmp .inn (.var 2) (.var 1))) (.nm 2) (.seq (.var 0)) .none [2]) .nil))) .nil
def D_are_sorts : FD := ⟨2, 3, [], false, B_are_sorts_0⟩
/-! Signature.read -/
def B_Signature_read_0 : RB := .cons (.ret (.frz (.makeV 0 0 (.cons (.var 3) (.cons (.var 4) .nil))))) .nil
def B_Signature_read_1 : RB := .cons .wall .nil
def B_Signature_read_2 : RB := .cons (.ite (.or (.cmp .eq (.var 2) (.lst false .nil)) (.cmp .ne (.sl (.var 1) (.some (.neg (.cst (.int 1)))) .none) (.cst (.str "\n")))) B_Signature_read_1 .nil) B_Signature_read_0
def B_Signature_read_3 : RB := .cons (.set 3 (.sl (.var 7) (.some (.cst (.int 1))) .none)) .nil
def B_Signature_read_4 : RB := .cons (.ex (.bmt .append (.var 4) (.cons (.var 8) .nil))) .nil
def B_Signature_read_5 : RB := .cons .wall .nil
def B_Signature_read_6 : RB := .cons (.ite (.cmp .isn (.var 8) (.cst .non)) B_Signature_read_5 .nil) B_Signature_read_4
def B_Signature_read_7 : RB := .cons (.set 8 (.call 30 (.cons (.var 7) .nil))) B_Signature_read_6
def B_Signature_read_8 : RB := .cons (.ite (.cmp .eq (.var 5) (.cst (.int 0))) B_Signature_read_3 B_Signature_read_7) .nil
def B_Signature_read_9 : RB := .cons .wall .nil
def B_Signature_read_10 : RB := .cons (.ite (.or (.cmp .inn (.cst (.str "")) (.var 7)) (.and (.cmp .eq (.var 5) (.cst (.int 0))) (.or (.cmp .ne (.ix (.var 7) (.cst (.int 0))) (.cst (.str "sorts"))) (.cmp .eq (.bcl .len (.cons (.var 7) .nil)) (.cst (.int 1)))))) B_Signature_read_9 .nil) B_Signature_read_8
def B_Signature_read_11 : RB := .cons (.set 7 (.bmt .split (.var 6) (.cons (.cst (.str " ")) .nil))) B_Signature_read_10
def B_Signature_read_12 : RB := .cons (.forr (.tp (.cons (.nm 5) (.cons (.nm 6) .nil))) (.enum (.var 2)) B_Signature_read_11) B_Signature_read_2
def B_Signature_read_13 : RB := .cons (.par [2, 3, 4] (.cons (.call 31 (.cons (.var 1) .nil)) (.cons (.lst false .nil) (.cons (.lst true .nil) .nil)))) B_Signature_read_12
def D_Signature_read : FD := ⟨2, 9, [], false, B_Signature_read_13⟩
/-! Signature.text -/
def B_Signature_text_0 : RB := .cons (.ret (.bmt .join (.cst (.str "")) (.cons (.lc false (.bin .add (.var 5) (.cst (.str "\n"))) (.nm 5) (.seq (.var 1)) .none [5]) .nil))) .nil
def B_Signature_text_1 : RB := .cons (.ex (.bmt .append (.var 1) (.cons (.bmt .join (.cst (.str " ")) (.cons (.lst false (.cons (.cst (.str "op")) (.cons (.var 2) (.star (.var 3) (.cons (.cst (.str ">")) (.cons (.var 4) .nil)))))) .nil)) .nil))) .nil
def B_Signature_text_2 : RB := .cons (.forr (.tp (.cons (.nm 2) (.cons (.nm 3) (.cons (.nm 4) .nil)))) (.seq (.fld (.var 0) 1)) B_Signature_text_1) B_Signature_text_0
def B_Signature_text_3 : RB := .cons (.set 1 (.lst true (.cons (.bmt .join (.cst (.str " ")) (.cons (.lst false (.cons (.cst (.str "sorts")) (.star (.fld (.var 0) 2) .nil))) .nil)) .nil))) B_Signature_text_2
def D_Signature_text : FD := ⟨1, 6, [], false, B_Signature_text_3⟩
/-! _law_sig_text -/
def B__law_sig_text_0 : RB := .cons (.ret (.bmt .join (.cst (.str "")) (.cons (.lc false (.bin .add (.var 5) (.cst (.str "\n"))) (.nm 5) (.seq (.var 1)) .none [5]) .nil))) .nil
def B__law_sig_text_1 : RB := .cons (.ex (.bmt .append (.var 1) (.cons (.bmt .join (.cst (.str " ")) (.cons (.bin .add (.bin .add (.lst false (.cons (.cst (.str "op")) (.cons (.var 2) .nil))) (.bcl .list (.cons (.var 3) .nil))) (.lst false (.cons (.cst (.str ">")) (.cons (.var 4) .nil)))) .nil)) .nil))) .nil
def B__law_sig_text_2 : RB := .cons (.forr (.tp (.cons (.nm 2) (.cons (.nm 3) (.cons (.nm 4) .nil)))) (.seq (.ix (.var 0) (.cst (.int 1)))) B__law_sig_text_1) B__law_sig_text_0
def B__law_sig_text_3 : RB := .cons (.set 1 (.lst true (.cons (.bmt .join (.cst (.str " ")) (.cons (.bin .add (.lst false (.cons (.cst (.str "sorts")) .nil)) (.ix (.var 0) (.cst (.int 0)))) .nil)) .nil))) B__law_sig_text_2
def D__law_sig_text : FD := ⟨1, 6, [], false, B__law_sig_text_3⟩
/-! operation_in -/
def B_operation_in_0 : RB := .cons (.ret (.tup (.cons (.ix (.var 0) (.cst (.int 1))) (.cons (.bcl .tuple (.cons (.sl (.var 0) (.some (.cst (.int 2))) (.some (.neg (.cst (.int 2))))) .nil)) (.cons (.ix (.var 0) (.neg (.cst (.int 1)))) .nil))))) .nil
def B_operation_in_1 : RB := .cons (.ret (.cst .non)) .nil
def B_operation_in_2 : RB := .cons (.ite (.or (.cmp .ne (.ix (.var 0) (.cst (.int 0))) (.cst (.str "op"))) (.or (.cmp .lt (.bcl .len (.cons (.var 0) .nil)) (.cst (.int 4))) (.cmp .ne (.ix (.var 0) (.neg (.cst (.int 2)))) (.cst (.str ">"))))) B_operation_in_1 .nil) B_operation_in_0
def D_operation_in : FD := ⟨1, 1, [], false, B_operation_in_2⟩
/-! lines_of -/
def B_lines_of_0 : RB := .cons (.ret (.sl (.bmt .split (.var 0) (.cons (.cst (.str "\n")) .nil)) .none (.some (.neg (.cst (.int 1)))))) .nil
def B_lines_of_1 : RB := .cons .wall .nil
def B_lines_of_2 : RB := .cons (.ite (.not (.isi (.var 0) true [.str])) B_lines_of_1 .nil) B_lines_of_0
def D_lines_of : FD := ⟨1, 1, [], false, B_lines_of_2⟩
end Dn
end

/-! Dn, part S: plain evaluation. -/
noncomputable section
namespace Dn
open PySem PySem.Spec PyProof.Rows L2
theorem Mem.get_put {m : Mem} {r : Nat} {o u : MO} (h : m.get r = some u) : (m.put r o).get r = some o := by
  have := (List.getElem?_eq_some_iff.mp (get_some h)).1
  unfold Mem.get
  rw [Dn.get_put this, if_pos rfl]
  rfl
theorem Mem.put_put {m : Mem} {r : Nat} {o u : MO} : (m.put r o).put r u = m.put r u := by
  unfold Mem.put
  rw [List.set_set]
theorem Mem.get_put_ne {m : Mem} {r n : Nat} {o : MO} (h : n ≠ r) : (m.put r o).get n = m.get n := by
  unfold Mem.get Mem.put
  rw [List.getElem?_set_ne (Ne.symm h)]
theorem Mem.len_put {m : Mem} {r : Nat} {o : MO} : (m.put r o).length = m.length := by simp [Mem.put]
theorem callAt_ok {p : Pg} {k f : Nat} {d : FD} (h : p.fd f = some d) {l : List D} {m : Mem} : callAt p (k + 1) f l m = runD (callAt p k) p.gv d l m := by
  show (match p.fd f with | some d => runD (callAt p k) p.gv d l m | none => .no) = _
  rw [h]
@[simp] theorem trim_no {m : Mem} : trimR m .no = .no := Eq.trans rfl rfl
@[simp] theorem trim_ref {m m' : Mem} {n : Nat} : trimR m (.ok (.ref n) m') = .ok (.ref n) m' := Eq.trans rfl rfl
theorem Tame.rfl_ (m : Mem) : Tame m m := ⟨Nat.le_refl _, fun _ _ => .inl rfl⟩
theorem trim_tame {m m' : Mem} {x : P} (h : Tame m m') : trimR m (.ok (.p x) m') = .ok (.p x) (m'.take m.length) := by
  exact if_pos h
@[simp] theorem trim_self {m : Mem} {x : P} : trimR m (.ok (.p x) m) = .ok (.p x) m := by
  rw [trim_tame (Tame.rfl_ m), List.take_length]
theorem tame_app {m l : Mem} : Tame m (m ++ l) := ⟨by simp, fun n h => .inl (List.getElem?_append_left h)⟩
theorem tame_put {m l : Mem} {r : Nat} {o : MO} (h : o.flat = true) : Tame m (m.put r o ++ l) := by
  refine ⟨by simp [Mem.put], fun n hn => ?_⟩
  have hn' : n < (m.put r o).length := by rw [Mem.len_put]; exact hn
  rw [List.getElem?_append_left hn']
  by_cases c : n = r
  · subst c
    right
    refine ⟨some o, ?_, fun q e => by cases e; exact h⟩
    unfold Mem.put
    rw [List.getElem?_set_self hn]
  · left
    unfold Mem.put
    rw [List.getElem?_set_ne (Ne.symm c)]
theorem trim_app {m l : Mem} {x : P} : trimR m (.ok (.p x) (m ++ l)) = .ok (.p x) m := by
  rw [trim_tame tame_app, List.take_left]
theorem trim_put {m : Mem} {r : Nat} {o : MO} {x : P} (h : o.flat = true) : trimR m (.ok (.p x) (m.put r o)) = .ok (.p x) (m.put r o) := by
  have t := tame_put (m := m) (l := []) (r := r) h
  rw [List.append_nil] at t
  rw [trim_tame t]
  have e : m.length = (m.put r o).length := Mem.len_put.symm
  rw [e, List.take_length]
theorem trim_put_app {m l : Mem} {r : Nat} {o : MO} {x : P} (h : o.flat = true) : trimR m (.ok (.p x) (m.put r o ++ l)) = .ok (.p x) (m.put r o) := by
  rw [trim_tame (tame_put h)]
  have e : m.length = (m.put r o).length := Mem.len_put.symm
  rw [e, List.take_left]
theorem trimU_tame {m m' : Mem} {d : D} (h : Tame m m') : trimU m (.ok d m') = .ok (.p .non) (m'.take m.length) := by
  exact if_pos h
theorem trimU_self {m : Mem} {d : D} : trimU m (.ok d m) = .ok (.p .non) m := by
  rw [trimU_tame (Tame.rfl_ m), List.take_length]
theorem trimU_app {m l : Mem} {d : D} : trimU m (.ok d (m ++ l)) = .ok (.p .non) m := by
  rw [trimU_tame tame_app, List.take_left]
theorem trimU_put {m : Mem} {r : Nat} {o : MO} {d : D} (h : o.flat = true) : trimU m (.ok d (m.put r o)) = .ok (.p .non) (m.put r o) := by
  have t := tame_put (m := m) (l := []) (r := r) h
  rw [List.append_nil] at t
  rw [trimU_tame t]
  have e : m.length = (m.put r o).length := Mem.len_put.symm
  rw [e, List.take_length]
/-- a def's run, every argument given -/
theorem runD_ok {cl : Nat → List D → Mem → R D} {gv : Gv} {np ns : Nat} {b : RB} {l : List D} {m : Mem} (h : l.length = np) : runD cl gv ⟨np, ns, [], false, b⟩ l m = trimR m (endS (denB cl gv b (startD ns l) m)) := by
  have e : argsD ⟨np, ns, [], false, b⟩ l = some l := by
    unfold argsD
    simp [h]
  unfold runD
  rw [e]
def slot (o : Option (Option D)) (m : Mem) : R D := match o with
  | some (some d) => .ok d m
  | _ => .no
def asI (x : D) (m : Mem) : R (Option Int) := match x with
  | .p (.int i) => .ok (some i) m
  | _ => .no
/-! ### the copied syntax, step by step (a comprehension stays as it is) -/
section
variable {cl : Nat → List D → Mem → R D} {gv : Gv} {δ : Sl} {m : Mem} {a b c e : RE} {l : RL} {i n : Nat}
@[simp] theorem v_var : den cl gv (.var i) δ m = slot δ[i]? m := Eq.trans rfl rfl
@[simp] theorem slot_ {d : D} : slot (some (some d)) m = .ok d m := Eq.trans rfl rfl
@[simp] theorem v_cst {x : P} : den cl gv (.cst x) δ m = .ok (.p x) m := Eq.trans rfl rfl
@[simp] theorem v_glo : den cl gv (.glo n) δ m = .ok (.p (gv.c n)) m := Eq.trans rfl rfl
@[simp] theorem v_tup : den cl gv (.tup l) δ m = (denL cl gv l δ m).bind (lnS l.plain mkT) := Eq.trans rfl rfl
@[simp] theorem pl_nil : RL.plain .nil = true := Eq.trans rfl rfl
@[simp] theorem pl_cons : RL.plain (.cons e l) = l.plain := Eq.trans rfl rfl
@[simp] theorem pl_star : RL.plain (.star e l) = false := Eq.trans rfl rfl
@[simp] theorem lnS_t {α : Type} {f : List D → Mem → R α} : lnS true f = f := Eq.trans rfl rfl
theorem lnS_f {α : Type} {f : List D → Mem → R α} {ds : List D} (h : ds.length ≤ sizeLine) : lnS false f ds m = f ds m := if_pos h
@[simp] theorem v_lst {mu : Bool} : den cl gv (.lst mu l) δ m = (denL cl gv l δ m).bind (lnS l.plain (mkL mu)) := Eq.trans rfl rfl
@[simp] theorem v_bin {o : BOp} : den cl gv (.bin o a b) δ m = (den cl gv a δ m).bind fun x m => (den cl gv b δ m).bind fun y m => binS o x y m := Eq.trans rfl rfl
@[simp] theorem v_cmp {o : COp} : den cl gv (.cmp o a b) δ m = (den cl gv a δ m).bind fun x m => (den cl gv b δ m).bind fun y m => cmpO cl gv o x y m := Eq.trans rfl rfl
@[simp] theorem v_cmp2 {o o' : COp} : den cl gv (.cmp2 o o' a b c) δ m = (den cl gv a δ m).bind fun x m => (den cl gv b δ m).bind fun y m => (cmpS o x y m).bind fun k m => (asB k m).bind fun k m => if k then (den cl gv c δ m).bind fun z m => cmpS o' y z m else .ok (.p (.bl false)) m := Eq.trans rfl rfl
@[simp] theorem v_and : den cl gv (.and a b) δ m = (den cl gv a δ m).bind fun x m => (asB x m).bind fun x m => if x then den cl gv b δ m else .ok (.p (.bl false)) m := Eq.trans rfl rfl
@[simp] theorem v_or : den cl gv (.or a b) δ m = (den cl gv a δ m).bind fun x m => (asB x m).bind fun x m => if x then .ok (.p (.bl true)) m else den cl gv b δ m := Eq.trans rfl rfl
@[simp] theorem v_not : den cl gv (.not a) δ m = (den cl gv a δ m).bind fun x m => (asB x m).bind fun x m => .ok (.p (.bl (!x))) m := Eq.trans rfl rfl
@[simp] theorem v_ite : den cl gv (.ite c a b) δ m = (den cl gv c δ m).bind fun x m => (asB x m).bind fun x m => if x then den cl gv a δ m else den cl gv b δ m := Eq.trans rfl rfl
@[simp] theorem v_isi {o : Bool} {l : List Ty} : den cl gv (.isi a o l) δ m = (den cl gv a δ m).bind fun x m => oB (isTys l x m) m := Eq.trans rfl rfl
@[simp] theorem v_ix : den cl gv (.ix a b) δ m = (den cl gv a δ m).bind fun x m => (den cl gv b δ m).bind fun y m => ixS x y m := Eq.trans rfl rfl
@[simp] theorem v_sl {lo hi : RO} : den cl gv (.sl a lo hi) δ m = (den cl gv a δ m).bind fun x m => (denO cl gv lo δ m).bind fun i m => (denO cl gv hi δ m).bind fun j m => slS x i j m := Eq.trans rfl rfl
@[simp] theorem v_call {f : Nat} : den cl gv (.call f l) δ m = (denL cl gv l δ m).bind (cl f) := Eq.trans rfl rfl
@[simp] theorem v_callK {f : Nat} {k : RL} {pm : List Nat} : den cl gv (.callK f l k pm) δ m = (denL cl gv l δ m).bind fun xs m => (denL cl gv k δ m).bind fun zs m => cl f (permL pm xs zs) m := Eq.trans rfl rfl
@[simp] theorem v_bcl {f : BF} : den cl gv (.bcl f l) δ m = (denL cl gv l δ m).bind (bclO cl gv f) := Eq.trans rfl rfl
@[simp] theorem v_bmt {f : BM} : den cl gv (.bmt f a l) δ m = (den cl gv a δ m).bind fun x m => if bmPre f x m = true then (denL cl gv l δ m).bind (bmtS f x) else .no := Eq.trans rfl rfl
theorem v_lc {mu : Bool} {t : T} {it : RI} {c : RO} {own : List Nat} : den cl gv (.lc mu e t it c own) δ m = (denI cl gv it δ m).bind fun its m => (lcRun (turn (denC cl gv c) (den cl gv e) t (wipeD δ own)) its its.l m).bind (mkL mu) := Eq.trans rfl rfl
@[simp] theorem v_frz : den cl gv (.frz a) δ m = trimR m ((den cl gv a δ m).bind frzS) := Eq.trans rfl rfl
@[simp] theorem v_fld {f : Nat} : den cl gv (.fld a f) δ m = (den cl gv a δ m).bind fun x m => fldS gv f x m := Eq.trans rfl rfl
theorem v_meth : den cl gv (.meth a n l) δ m = (den cl gv a δ m).bind fun x m => match (clsS x m).bind fun c => gv.mt c n with | some f => (denL cl gv l δ m).bind fun xs m => cl f (x :: xs) m | none => .no := Eq.trans rfl rfl
theorem v_methP {f c : Nat} {x : D} {m' : Mem} (e1 : den cl gv a δ m = .ok x m') (e2 : clsS x m' = some c) (e3 : gv.mt c n = some f) : den cl gv (.meth a n l) δ m = (denL cl gv l δ m').bind fun xs m => cl f (x :: xs) m := by
  rw [v_meth, e1]
  simp only [R.bind_ok, e2, Option.bind_some, e3]
theorem v_make {f c : Nat} (h : gv.ini c = some f) : den cl gv (.make c l) δ m = (denL cl gv l δ m).bind fun xs m => makeS cl c f xs m := by
  show (match gv.ini c with | some f => (denL cl gv l δ m).bind fun xs m => makeS cl c f xs m | none => .no) = _
  rw [h]
theorem v_ccon {c : Nat} {x : P} (h : gv.cc c n = some x) : den cl gv (.ccon c n) δ m = .ok (.p x) m := by
  show (match gv.cc c n with | some x => R.ok (D.p x) m | none => .no) = _
  rw [h]
@[simp] theorem v_fmt : den cl gv (.fmt a) δ m = (den cl gv a δ m).bind fmtS := Eq.trans rfl rfl
@[simp] theorem v_fstr : den cl gv (.fstr l) δ m = denJ cl gv l Str.empty δ m := Eq.trans rfl rfl
@[simp] theorem v_rev : den cl gv (.rev a) δ m = (den cl gv a δ m).bind revS := Eq.trans rfl rfl
theorem v_dcm {t : Bool} {kx vx : RE} {tg : T} {it : RI} {co : RO} {own : List Nat} : den cl gv (.dcm t kx vx tg it co own) δ m = (denI cl gv it δ m).bind fun its m => dcRun t (fun x m => (oR (asgT tg x m (wipeD δ own)) m).bind fun δ' m => (denC cl gv co δ' m).bind fun k m => if k then (den cl gv kx δ' m).bind fun y m => (den cl gv vx δ' m).bind fun z m => pairS y z m else .ok none m) its its.l [] m := Eq.trans rfl rfl
@[simp] theorem j_nil {acc : Str} : denJ cl gv .nil acc δ m = .ok (.p (.str acc)) m := Eq.trans rfl rfl
theorem j_cons {acc : Str} : denJ cl gv (.cons e l) acc δ m = (den cl gv e δ m).bind fun x m => match addS acc x with | some acc => denJ cl gv l acc δ m | none => .no := Eq.trans rfl rfl
@[simp] theorem l_nil : denL cl gv .nil δ m = .ok [] m := Eq.trans rfl rfl
@[simp] theorem l_cons : denL cl gv (.cons e l) δ m = (den cl gv e δ m).bind fun x m => (denL cl gv l δ m).bind fun xs m => .ok (x :: xs) m := Eq.trans rfl rfl
@[simp] theorem l_star : denL cl gv (.star e l) δ m = (den cl gv e δ m).bind fun x m => (oR (seqD m x) m).bind fun ys m => (denL cl gv l δ m).bind fun xs m => .ok (ys ++ xs) m := Eq.trans rfl rfl
@[simp] theorem o_none' : denO cl gv .none δ m = .ok none m := Eq.trans rfl rfl
@[simp] theorem o_some' : denO cl gv (.some e) δ m = (den cl gv e δ m).bind asI := Eq.trans rfl rfl
@[simp] theorem asI_ {i : Int} : asI (.p (.int i)) m = .ok (some i) m := Eq.trans rfl rfl
@[simp] theorem c_none' : denC cl gv .none δ m = .ok true m := Eq.trans rfl rfl
@[simp] theorem c_some' : denC cl gv (.some e) δ m = (den cl gv e δ m).bind asB := Eq.trans rfl rfl
@[simp] theorem i_seq' : denI cl gv (.seq e) δ m = (den cl gv e δ m).bind fun x m => oR (itSeq x m) m := Eq.trans rfl rfl
@[simp] theorem i_rng' : denI cl gv (.rng e) δ m = (den cl gv e δ m).bind fun x m => oR (itRng x) m := Eq.trans rfl rfl
@[simp] theorem i_zip' : denI cl gv (.zip a b) δ m = (den cl gv a δ m).bind fun x m => (den cl gv b δ m).bind fun y m => oR (itZip x y) m := Eq.trans rfl rfl
@[simp] theorem i_enum' : denI cl gv (.enum a) δ m = (den cl gv a δ m).bind fun x m => oR (itEnum x m) m := Eq.trans rfl rfl
@[simp] theorem toS_ok {α : Type} {x : α} {f : α → Mem → S} : (R.ok x m).toS δ f = f x m := Eq.trans rfl rfl
@[simp] theorem b_nil' : denB cl gv .nil δ m = .ok .nx δ m := Eq.trans rfl rfl
@[simp] theorem b_cons' {s : RS} {b : RB} : denB cl gv (.cons s b) δ m = (match denS cl gv s δ m with | .ok .nx δ m => denB cl gv b δ m | r => r) := Eq.trans rfl rfl
@[simp] theorem s_asg' {t : T} : denS cl gv (.asg t e) δ m = (den cl gv e δ m).toS δ fun d m => match asgT t d m δ with | some δ' => .ok .nx δ' m | none => .no := Eq.trans rfl rfl
@[simp] theorem s_fset' {f : Nat} : denS cl gv (.fset a f e) δ m = (den cl gv e δ m).toS δ fun v m => (den cl gv a δ m).toS δ fun x m => (fsetS gv f x v m).toS δ fun _ m => .ok .nx δ m := Eq.trans rfl rfl
theorem s_for' {t : T} {it : RI} {b : RB} : denS cl gv (.forr t it b) δ m = (denI cl gv it δ m).toS δ fun its m => forRun (fun x δ m => match asgT t x m δ with | some δ' => denB cl gv b δ' m | none => .no) its its.l δ m := Eq.trans rfl rfl
@[simp] theorem s_set' : denS cl gv (.set i e) δ m = (den cl gv e δ m).toS δ fun d m => .ok .nx (δ.set i (some d)) m := Eq.trans rfl rfl
@[simp] theorem s_iset' : denS cl gv (.iset a b e) δ m = (den cl gv e δ m).toS δ fun v m => (den cl gv a δ m).toS δ fun x m => (den cl gv b δ m).toS δ fun y m => (isetS x y v m).toS δ fun _ m => .ok .nx δ m := Eq.trans rfl rfl
@[simp] theorem s_par' {is : List Nat} : denS cl gv (.par is l) δ m = (denL cl gv l δ m).toS δ fun ds m => if ds.length = is.length then .ok .nx ((is.zip ds).foldl (fun δ p => δ.set p.1 (some p.2)) δ) m else .no := Eq.trans rfl rfl
@[simp] theorem s_ex' : denS cl gv (.ex e) δ m = (trimU m (den cl gv e δ m)).toS δ fun _ m => .ok .nx δ m := Eq.trans rfl rfl
@[simp] theorem s_ret' : denS cl gv (.ret e) δ m = (den cl gv e δ m).toS δ fun d m => .ok (.rt d) δ m := Eq.trans rfl rfl
@[simp] theorem s_ite' {a b : RB} : denS cl gv (.ite c a b) δ m = ((den cl gv c δ m).bind asB).toS δ fun k m => if k then denB cl gv a δ m else denB cl gv b δ m := Eq.trans rfl rfl
@[simp] theorem endS_rt {d : D} : endS (.ok (.rt d) δ m) = .ok d m := Eq.trans rfl rfl
@[simp] theorem endS_nx : endS (.ok .nx δ m) = .ok (.p .non) m := Eq.trans rfl rfl
@[simp] theorem oR_some {α : Type} {x : α} : oR (some x) m = .ok x m := Eq.trans rfl rfl
@[simp] theorem oB_some {x : Bool} : oB (some x) m = .ok (.p (.bl x)) m := Eq.trans rfl rfl
@[simp] theorem start_ {n : Nat} {l : List D} : startD n l = l.map some ++ List.replicate (n - l.length) none := Eq.trans rfl rfl
theorem turn_ {rc : Sl → Mem → R Bool} {re : Sl → Mem → R D} {t : T} {x : D} : turn rc re t δ x m = (oR (asgT t x m δ) m).bind fun δ' m => (rc δ' m).bind fun k m => if k then (re δ' m).bind fun y m => .ok (some y) m else .ok none m := Eq.trans rfl rfl
@[simp] theorem asg_nm {x : D} : asgT (.nm i) x m δ = some (δ.set i (some x)) := Eq.trans rfl rfl
end
/-! ### operations on what is known -/
section
variable {m : Mem} {i j : Int} {b b' : Bool} {x y : Str}
theorem shp_int (i : Int) : (P.int i).shp = true := Eq.trans rfl rfl
theorem shp_bl (i : Bool) : (P.bl i).shp = true := Eq.trans rfl rfl
@[simp] theorem o_add : binS .add (.p (.int i)) (.p (.int j)) m = .ok (.p (.int (i + j))) m := Eq.trans rfl rfl
@[simp] theorem o_sub : binS .sub (.p (.int i)) (.p (.int j)) m = .ok (.p (.int (i - j))) m := Eq.trans rfl rfl
theorem o_mulL (h1 : -(2 ^ 64) < i) (h2 : i < 2 ^ 64) : binS .mul (.p (.int i)) (.p (.int j)) m = .ok (.p (.int (i * j))) m := by
  refine if_pos ?_
  unfold mulOk
  rw [Bool.or_eq_true]
  exact .inl (by rw [Bool.and_eq_true]; exact ⟨decide_eq_true h1, decide_eq_true h2⟩)
theorem o_mulR (h1 : -(2 ^ 64) < j) (h2 : j < 2 ^ 64) : binS .mul (.p (.int i)) (.p (.int j)) m = .ok (.p (.int (i * j))) m := by
  refine if_pos ?_
  unfold mulOk
  rw [Bool.or_eq_true]
  exact .inr (by rw [Bool.and_eq_true]; exact ⟨decide_eq_true h1, decide_eq_true h2⟩)
theorem o_mod (h : 0 < j) : binS .mod (.p (.int i)) (.p (.int j)) m = .ok (.p (.int (i % j))) m := if_pos h
theorem o_fdiv (h : 0 < j) (h2 : j < 1073741824) : binS .fdiv (.p (.int i)) (.p (.int j)) m = .ok (.p (.int (i / j))) m := if_pos ⟨h, h2⟩
theorem o_pow (h : 0 ≤ j) (h2 : j ≤ 1000000) (h3 : i.natAbs < 2 ^ 64) : binS .pow (.p (.int i)) (.p (.int j)) m = .ok (.p (.int (i ^ j.toNat))) m := if_pos ⟨h, h2, h3⟩
@[simp] theorem k_lt : cmpS .lt (.p (.int i)) (.p (.int j)) m = .ok (.p (.bl (decide (i < j)))) m := Eq.trans rfl rfl
@[simp] theorem k_gt : cmpS .gt (.p (.int i)) (.p (.int j)) m = .ok (.p (.bl (decide (j < i)))) m := Eq.trans rfl rfl
@[simp] theorem k_le : cmpS .le (.p (.int i)) (.p (.int j)) m = .ok (.p (.bl (decide (i ≤ j)))) m := Eq.trans rfl rfl
@[simp] theorem k_ge : cmpS .ge (.p (.int i)) (.p (.int j)) m = .ok (.p (.bl (decide (j ≤ i)))) m := Eq.trans rfl rfl
@[simp] theorem k_eqI : cmpS .eq (.p (.int i)) (.p (.int j)) m = .ok (.p (.bl (decide (i = j)))) m := by
  show oB (eqP (.int i) (.int j)) m = _
  have : eqP (.int i) (.int j) = some (i == j) := rfl
  rw [this]
  show R.ok (D.p (.bl (i == j))) m = _
  congr 3
@[simp] theorem k_neI : cmpS .ne (.p (.int i)) (.p (.int j)) m = .ok (.p (.bl (!decide (i = j)))) m := by
  show oB ((eqP (.int i) (.int j)).map (!·)) m = _
  have : eqP (.int i) (.int j) = some (i == j) := rfl
  rw [this]
  show R.ok (D.p (.bl (!(i == j)))) m = _
  congr 4
@[simp] theorem k_eqS : cmpS .eq (.p (.str x)) (.p (.str y)) m = .ok (.p (.bl (decide (x = y)))) m := Eq.trans rfl rfl
@[simp] theorem k_eqB : cmpS .eq (.p (.bl b)) (.p (.bl b')) m = .ok (.p (.bl (b == b'))) m := by cases b <;> cases b' <;> rfl
@[simp] theorem k_neB : cmpS .ne (.p (.bl b)) (.p (.bl b')) m = .ok (.p (.bl (!(b == b')))) m := by cases b <;> cases b' <;> rfl
@[simp] theorem k_isN {d : D} : cmpS .isn d (.p .non) m = .ok (.p (.bl (isN d))) m := Eq.trans rfl rfl
@[simp] theorem k_notN {d : D} : cmpS .notn d (.p .non) m = .ok (.p (.bl (!isN d))) m := Eq.trans rfl rfl
@[simp] theorem asB_bl : asB (.p (.bl b)) m = .ok b m := Eq.trans rfl rfl
@[simp] theorem ints_ : bclS .int [.p (.int i)] m = .ok (.p (.int i)) m := Eq.trans rfl rfl
@[simp] theorem abs_ : bclS .abs [.p (.int i)] m = .ok (.p (.int (if i < 0 then -i else i))) m := Eq.trans rfl rfl
@[simp] theorem len_l {l : List P} : bclS .len [.p (.lst l)] m = .ok (.p (.int (l.length : Int))) m := by
  show R.ok (D.p (.int ((l.map D.p).length : Int))) m = _
  rw [List.length_map]
@[simp] theorem len_t {l : List P} : bclS .len [.p (.tup l)] m = .ok (.p (.int (l.length : Int))) m := by
  show R.ok (D.p (.int ((l.map D.p).length : Int))) m = _
  rw [List.length_map]
@[simp] theorem len_s : bclS .len [.p (.str x)] m = .ok (.p (.int (x.length : Int))) m := Eq.trans rfl rfl
@[simp] theorem list_l {l : List P} : bclS .list [.p (.lst l)] m = .ok (.p (.lst l)) m := by
  show mkL false (l.map D.p) m = _
  unfold mkL
  rw [allP_map]
@[simp] theorem list_t {l : List P} : bclS .list [.p (.tup l)] m = .ok (.p (.lst l)) m := by
  show mkL false (l.map D.p) m = _
  unfold mkL
  rw [allP_map]
@[simp] theorem tuple_t {l : List P} : bclS .tuple [.p (.tup l)] m = .ok (.p (.tup l)) m := Eq.trans rfl rfl
@[simp] theorem tuple_l {l : List P} : bclS .tuple [.p (.lst l)] m = .ok (.p (.tup l)) m := by
  show mkT (l.map D.p) m = _
  unfold mkT
  rw [allP_map]
@[simp] theorem listM_l {l : List P} : bclS .listM [.p (.lst l)] m = .ok (.ref m.length) (m.new (.lst (l.map D.p))) := Eq.trans rfl rfl
@[simp] theorem listM_t {l : List P} : bclS .listM [.p (.tup l)] m = .ok (.ref m.length) (m.new (.lst (l.map D.p))) := Eq.trans rfl rfl
@[simp] theorem listM_d {l : List (P × P)} : bclS .listM [.p (.dct false l)] m = .ok (.ref m.length) (m.new (.lst (l.map fun kv => .p kv.1))) := Eq.trans rfl rfl
end
/-! ### of what class -/
section
variable {cl : Nat → List D → Mem → R D} {gv : Gv} {m : Mem} {a b : D}
@[simp] theorem cls_non : clsS (.p .non) m = none := Eq.trans rfl rfl
@[simp] theorem cls_bl {x : Bool} : clsS (.p (.bl x)) m = none := Eq.trans rfl rfl
@[simp] theorem cls_int {x : Int} : clsS (.p (.int x)) m = none := Eq.trans rfl rfl
@[simp] theorem cls_str {x : Str} : clsS (.p (.str x)) m = none := Eq.trans rfl rfl
@[simp] theorem cls_tup {x : List P} : clsS (.p (.tup x)) m = none := Eq.trans rfl rfl
@[simp] theorem cls_lst {x : List P} : clsS (.p (.lst x)) m = none := Eq.trans rfl rfl
@[simp] theorem cls_dct {t : Bool} {x : List (P × P)} : clsS (.p (.dct t x)) m = none := Eq.trans rfl rfl
@[simp] theorem cls_ins {c : Nat} {x : List (Nat × P)} : clsS (.p (.ins c x)) m = some c := Eq.trans rfl rfl
@[simp] theorem co_lt : cmpO cl gv .lt a b m = cmpS .lt a b m := Eq.trans rfl rfl
@[simp] theorem co_gt : cmpO cl gv .gt a b m = cmpS .gt a b m := Eq.trans rfl rfl
@[simp] theorem co_le : cmpO cl gv .le a b m = cmpS .le a b m := Eq.trans rfl rfl
@[simp] theorem co_ge : cmpO cl gv .ge a b m = cmpS .ge a b m := Eq.trans rfl rfl
@[simp] theorem co_isn : cmpO cl gv .isn a b m = cmpS .isn a b m := Eq.trans rfl rfl
@[simp] theorem co_notn : cmpO cl gv .notn a b m = cmpS .notn a b m := Eq.trans rfl rfl
@[simp] theorem co_eq (h : clsS a m = none) : cmpO cl gv .eq a b m = cmpS .eq a b m := by unfold cmpO; simp only [h]
@[simp] theorem co_ne (h : clsS a m = none) : cmpO cl gv .ne a b m = cmpS .ne a b m := by unfold cmpO; simp only [h]
@[simp] theorem co_in (h : clsS b m = none) : cmpO cl gv .inn a b m = cmpS .inn a b m := by unfold cmpO; simp only [h]
@[simp] theorem co_nin (h : clsS b m = none) : cmpO cl gv .nin a b m = cmpS .nin a b m := by unfold cmpO; simp only [h]
@[simp] theorem bo_len (h : clsS a m = none) : bclO cl gv .len [a] m = bclS .len [a] m := by unfold bclO; simp only [h]
@[simp] theorem bo_int {l : List D} : bclO cl gv .int l m = bclS .int l m := Eq.trans rfl rfl
@[simp] theorem bo_abs {l : List D} : bclO cl gv .abs l m = bclS .abs l m := Eq.trans rfl rfl
@[simp] theorem bo_list {l : List D} : bclO cl gv .list l m = bclS .list l m := Eq.trans rfl rfl
@[simp] theorem bo_listM {l : List D} : bclO cl gv .listM l m = bclS .listM l m := Eq.trans rfl rfl
@[simp] theorem bo_tuple {l : List D} : bclO cl gv .tuple l m = bclS .tuple l m := Eq.trans rfl rfl
@[simp] theorem bo_all {l : List D} : bclO cl gv .all l m = bclS .all l m := Eq.trans rfl rfl
@[simp] theorem bo_any {l : List D} : bclO cl gv .any l m = bclS .any l m := Eq.trans rfl rfl
@[simp] theorem bo_sum {l : List D} : bclO cl gv .sum l m = bclS .sum l m := Eq.trans rfl rfl
@[simp] theorem bo_str {l : List D} : bclO cl gv .str l m = bclS .str l m := Eq.trans rfl rfl
end
@[simp] theorem aP_nil : allP [] = some [] := Eq.trans rfl rfl
@[simp] theorem aP_cons {x : P} {l : List D} : allP (.p x :: l) = (allP l).map (x :: ·) := Eq.trans rfl rfl
@[simp] theorem mkT_ {l : List D} {ps : List P} {m : Mem} (h : allP l = some ps) : mkT l m = .ok (.p (.tup ps)) m := by unfold mkT; rw [h]
@[simp] theorem mkL_ {l : List D} {ps : List P} {m : Mem} (h : allP l = some ps) : mkL false l m = .ok (.p (.lst ps)) m := by unfold mkL; rw [h]
@[simp] theorem mkL_t {l : List D} {m : Mem} : mkL true l m = .ok (.ref m.length) (m.new (.lst l)) := Eq.trans rfl rfl

theorem ix_l {m : Mem} {l : List P} {k : Nat} {x : P} (e : l[k]? = some x) : ixS (.p (.lst l)) (.p (.int (k : Int))) m = .ok (.p x) m := by
  unfold ixS seqD
  have : (l.map D.p)[k]? = some (.p x) := by rw [List.getElem?_map, e]; rfl
  simp only
  rw [atI_nat this]
theorem ix_bag {m : Mem} {r : Nat} {l : List D} (h : m.get r = some (.lst l)) (k : Nat) {x : D} (e : l[k]? = some x) : ixS (.ref r) (.p (.int (k : Int))) m = .ok x m := by
  unfold ixS seqD
  simp only [h]
  rw [atI_nat e]
theorem iset_bag {m : Mem} {r : Nat} {l : List D} (h : m.get r = some (.lst l)) (k : Nat) (hk : k < l.length) (x : D) : isetS (.ref r) (.p (.int (k : Int))) x m = .ok () (m.put r (.lst (l.set k x))) := by
  unfold isetS
  simp only [h]
  have : ixN l.length (k : Int) = some k := by unfold ixN; simp [hk]
  rw [this]
end Dn
end

/-! Dn, part U: the drawn numbers. -/
noncomputable section
namespace Dn
open PySem PySem.Spec PyProof.Rows L2
/-! ### the law's bag of numbers -/
def bagO (c : List Int) (i q s n : Int) : MO := .lst [.p (.lst (c.map P.int)), .p (.int i), .p (.int q), .p (.int s), .p (.int n)]
def BagO (o : MO) : Prop := ∃ c i q s n, o = bagO c i q s n ∧ 0 ≤ i ∧ 0 ≤ q ∧ 0 ≤ s ∧ s < 2147483587
section
variable {m : Mem} {r : Nat} {c : List Int} {i q s n x : Int}
theorem bg0 (h : m.get r = some (bagO c i q s n)) : ixS (.ref r) (.p (.int 0)) m = .ok (.p (.lst (c.map P.int))) m := ix_bag h 0 rfl
theorem bg1 (h : m.get r = some (bagO c i q s n)) : ixS (.ref r) (.p (.int 1)) m = .ok (.p (.int i)) m := ix_bag h 1 rfl
theorem bg2 (h : m.get r = some (bagO c i q s n)) : ixS (.ref r) (.p (.int 2)) m = .ok (.p (.int q)) m := ix_bag h 2 rfl
theorem bg3 (h : m.get r = some (bagO c i q s n)) : ixS (.ref r) (.p (.int 3)) m = .ok (.p (.int s)) m := ix_bag h 3 rfl
theorem bg4 (h : m.get r = some (bagO c i q s n)) : ixS (.ref r) (.p (.int 4)) m = .ok (.p (.int n)) m := ix_bag h 4 rfl
theorem bs1 (h : m.get r = some (bagO c i q s n)) : isetS (.ref r) (.p (.int 1)) (.p (.int x)) m = .ok () (m.put r (bagO c x q s n)) := iset_bag h 1 (by simp) _
theorem bs2 (h : m.get r = some (bagO c i q s n)) : isetS (.ref r) (.p (.int 2)) (.p (.int x)) m = .ok () (m.put r (bagO c i x s n)) := iset_bag h 2 (by simp) _
theorem bs3 (h : m.get r = some (bagO c i q s n)) : isetS (.ref r) (.p (.int 3)) (.p (.int x)) m = .ok () (m.put r (bagO c i q x n)) := iset_bag h 3 (by simp) _
theorem bs4 (h : m.get r = some (bagO c i q s n)) : isetS (.ref r) (.p (.int 4)) (.p (.int x)) m = .ok () (m.put r (bagO c i q s x)) := iset_bag h 4 (by simp) _
end
/-- behind the look at the script -/
theorem pull_t {cl : Nat → List D → Mem → R D} {gv : Gv} {m : Mem} {r : Nat} {c : List Int} {i q s n many : Int} {x2 x3 x4 x5 x6 : Option D} (h : m.get r = some (bagO c i q s n)) (hi : 0 ≤ i) (hq : 0 ≤ q) (hs : 0 ≤ s) (hs2 : s < 2147483587) (h1 : 0 < many) (h2 : many < 1073741824) :
    ∃ v o, endS (denB cl gv B__law_pull_7 [some (.ref r), some (.p (.int many)), x2, x3, x4, x5, x6] m) = .ok (.p (.int v)) (m.put r o) ∧ BagO o ∧ 0 ≤ v ∧ v < many := by
  by_cases c1 : 0 < q
  · simp [B__law_pull_7, B__law_pull_6, B__law_pull_5, B__law_pull_4, denB, denS, den, denL, R.toS, bg2 h, c1, o_mod h1, o_fdiv h1 h2, bs2 h, endS]
    exact ⟨_, _, ⟨rfl, rfl⟩, ⟨c, i, q / many, s, n, rfl, hi, Int.ediv_nonneg hq (Int.le_of_lt h1), hs, hs2⟩, Int.emod_nonneg _ (Int.ne_of_gt h1), Int.emod_lt_of_pos _ h1⟩
  · have g3 := fun x => bg3 (r := r) (c := c) (i := i) (q := q) (n := n) (s := x) (Mem.get_put h)
    have mm : binS .mul (.p (.int s)) (.p (.int s)) m = .ok (.p (.int (s * s))) m := o_mulL (by omega) (by omega)
    simp [B__law_pull_7, B__law_pull_3, B__law_pull_2, B__law_pull_1, B__law_pull_0, denB, denS, den, denL, R.toS, bg2 h, c1, bg3 h, bg4 h, o_mulR, o_mod, o_fdiv, bs3 h, g3, mm, endS, h1]
    exact ⟨_, _, ⟨rfl, rfl⟩, ⟨c, i, q, _, n, rfl, hi, hq, Int.emod_nonneg _ (by omega), Int.emod_lt_of_pos _ (by omega)⟩, Int.emod_nonneg _ (Int.ne_of_gt h1), Int.emod_lt_of_pos _ h1⟩
theorem bag_flat {o : MO} (h : BagO o) : o.flat = true := by
  obtain ⟨c, i, q, s, n, rfl, _⟩ := h
  rfl
theorem pull_1 {cl : Nat → List D → Mem → R D} {gv : Gv} {m : Mem} {r : Nat} {o : MO} {many : Int} (h : m.get r = some o) (hb : BagO o) (h1 : 0 < many) (h2 : many < 1073741824) :
    ∃ v o, runD cl gv D__law_pull [.ref r, .p (.int many)] m = .ok (.p (.int v)) (m.put r o) ∧ BagO o ∧ 0 ≤ v ∧ v < many := by
  obtain ⟨c, i, q, s, n, rfl, hi, hq, hs, hs2⟩ := hb
  unfold D__law_pull
  rw [runD_ok (np := 2) rfl]
  suffices hh : ∃ v o, endS (denB cl gv B__law_pull_15 (startD 7 [.ref r, .p (.int many)]) m) = .ok (.p (.int v)) (m.put r o) ∧ BagO o ∧ 0 ≤ v ∧ v < many by
    obtain ⟨v, o, e, b, z⟩ := hh
    exact ⟨v, o, by rw [e, trim_put (bag_flat b)], b, z⟩
  simp only [startD, List.map_cons, List.map_nil, List.length_cons, List.length_nil, List.replicate, List.cons_append, List.nil_append]
  have hp : ∀ x, (m.put r x).get r = some x := fun x => Mem.get_put h
  have fin : ∀ {c : List Int} {i q s n : Int} {x2 x3 x4 x5 x6 : Option D}, 0 ≤ i → 0 ≤ q → 0 ≤ s → s < 2147483587 → ∃ v o, endS (denB cl gv B__law_pull_7 [some (.ref r), some (.p (.int many)), x2, x3, x4, x5, x6] (m.put r (bagO c i q s n))) = .ok (.p (.int v)) (m.put r o) ∧ BagO o ∧ 0 ≤ v ∧ v < many := fun {c i q s n x2 x3 x4 x5 x6} ha hb hc hd => by
    obtain ⟨v, o, e, z⟩ := pull_t (cl := cl) (gv := gv) (x2 := x2) (x3 := x3) (x4 := x4) (x5 := x5) (x6 := x6) (hp (bagO c i q s n)) ha hb hc hd h1 h2
    rw [Mem.put_put] at e
    exact ⟨v, o, e, z⟩
  by_cases c1 : q = 0 ∧ i < c.length
  · obtain ⟨rfl, c2⟩ := c1
    obtain ⟨k, rfl⟩ : ∃ k : Nat, i = k := ⟨i.toNat, by omega⟩
    have hk : k < c.length := by omega
    have ex : ∀ {m : Mem}, ixS (.p (.lst (c.map P.int))) (.p (.int (k : Int))) m = .ok (.p (.int c[k])) m := ix_l (by rw [List.getElem?_map, List.getElem?_eq_getElem hk]; rfl)
    generalize c[k] = z at ex
    have haz : 0 ≤ (if z < 0 then -z else z) := by split <;> omega
    by_cases c3 : 1000000000000000000 ≤ (if z < 0 then -z else z)
    · simp [B__law_pull_15, B__law_pull_14, B__law_pull_13, B__law_pull_12, B__law_pull_11, B__law_pull_8, denB, denS, den, denL, R.toS, bg4 h, bs4 h, bg2 (hp _), bg1 (hp _), bg0 (hp _), c2, ex, bs1 (hp _), Mem.put_put, o_pow, c3, bs2 (hp _), hk]
      exact fin (Int.add_nonneg hi (by decide)) haz hs hs2
    · simp [B__law_pull_15, B__law_pull_14, B__law_pull_13, B__law_pull_12, B__law_pull_11, B__law_pull_10, B__law_pull_9, denB, denS, den, denL, R.toS, bg4 h, bs4 h, bg2 (hp _), bg1 (hp _), bg0 (hp _), c2, ex, bs1 (hp _), Mem.put_put, o_pow, c3, hk, o_mod, o_mulR, bg3 (hp _), bs3 (hp _)]
      exact fin (Int.add_nonneg hi (by decide)) (Int.le_refl 0) (Int.emod_nonneg _ (by decide)) (Int.emod_lt_of_pos _ (by decide))
  · by_cases c4 : q = 0
    · subst c4
      have c5 : ¬ i < c.length := fun z => c1 ⟨rfl, z⟩
      simp [B__law_pull_15, B__law_pull_14, denB, denS, den, denL, R.toS, bg4 h, bs4 h, bg2 (hp _), bg1 (hp _), bg0 (hp _), c5]
      exact fin hi (Int.le_refl 0) hs hs2
    · simp [B__law_pull_15, B__law_pull_14, denB, denS, den, denL, R.toS, bg4 h, bs4 h, bg2 (hp _), bg1 (hp _), bg0 (hp _), c4]
      exact fin hi hq hs hs2
end Dn
end

/-! Dn, part V: texts as lists of signs; comprehensions by their items. -/
noncomputable section
namespace Dn
open PySem PySem.Spec PyProof.Rows L2
/-! ### texts -/
def mk (l : List Nat) : Str := ⟨l.toArray⟩
theorem mk_of (s : Str) : s = mk s.cps.toList := by
  obtain ⟨a⟩ := s
  rfl
@[simp] theorem mk_list (l : List Nat) : (mk l).cps.toList = l := rfl
@[simp] theorem mk_len (l : List Nat) : (mk l).length = l.length := by simp [mk, Str.length]
theorem mk_app (l r : List Nat) : mk l ++ mk r = mk (l ++ r) := by
  show Str.append (mk l) (mk r) = _
  unfold Str.append mk
  simp
theorem mk_inj {l r : List Nat} : mk l = mk r ↔ l = r := ⟨fun h => by have := congrArg (fun s : Str => s.cps.toList) h; simpa using this, fun h => by rw [h]⟩
theorem mk_cut (l : List Nat) (lo hi : Option Int) : cutS (mk l) lo hi = mk ((l.drop (HT.sIx l.length 0 lo)).take (HT.sIx l.length l.length hi - HT.sIx l.length 0 lo)) := by
  unfold cutS
  rw [mk_len]
  rfl
theorem cut_to (l : List Nat) (k : Nat) : cutS (mk l) none (some (k : Int)) = mk (l.take k) := by
  rw [mk_cut, HT.sIx_none, HT.sIx_nat, List.drop_zero, Nat.sub_zero, Nat.min_comm]
  congr 1
  by_cases h : k ≤ l.length
  · rw [Nat.min_eq_right h]
  · rw [Nat.min_eq_left (by omega), List.take_of_length_le (Nat.le_refl _), List.take_of_length_le (by omega)]
theorem cut_from (l : List Nat) (k : Nat) : cutS (mk l) (some (k : Int)) none = mk (l.drop k) := by
  rw [mk_cut, HT.sIx_none, HT.sIx_nat]
  congr 1
  by_cases h : k ≤ l.length
  · rw [Nat.min_eq_left h, List.take_of_length_le (by simp)]
  · rw [Nat.min_eq_right (by omega), List.drop_of_length_le (Nat.le_refl _), List.drop_of_length_le (by omega), List.take_nil]
section
variable {m : Mem} {l r : List Nat}
theorem o_cat (h : l.length + r.length ≤ sizeLine) : binS .add (.p (.str (mk l))) (.p (.str (mk r))) m = .ok (.p (.str (mk (l ++ r)))) m := by
  have : binS .add (.p (.str (mk l))) (.p (.str (mk r))) m = if (mk l).length + (mk r).length ≤ sizeLine then .ok (.p (.str (mk l ++ mk r))) m else .no := rfl
  rw [this, mk_len, mk_len, if_pos h, mk_app]
theorem s_to (k : Nat) : slS (.p (.str (mk l))) none (some (k : Int)) m = .ok (.p (.str (mk (l.take k)))) m := by
  have : slS (.p (.str (mk l))) none (some (k : Int)) m = .ok (.p (.str (cutS (mk l) none (some (k : Int))))) m := rfl
  rw [this, cut_to]
theorem s_from (k : Nat) : slS (.p (.str (mk l))) (some (k : Int)) none m = .ok (.p (.str (mk (l.drop k)))) m := by
  have : slS (.p (.str (mk l))) (some (k : Int)) none m = .ok (.p (.str (cutS (mk l) (some (k : Int)) none))) m := rfl
  rw [this, cut_from]
theorem ix_s {k c : Nat} (e : l[k]? = some c) : ixS (.p (.str (mk l))) (.p (.int (k : Int))) m = .ok (.p (.str (mk [c]))) m := by
  have : ixS (.p (.str (mk l))) (.p (.int (k : Int))) m = (match atI (mk l).cps.toList (k : Int) with | some c => .ok (.p (.str ⟨#[c]⟩)) m | none => .no) := rfl
  rw [this, mk_list, atI_nat e]
  rfl
@[simp] theorem len_mk : bclS .len [.p (.str (mk l))] m = .ok (.p (.int (l.length : Int))) m := by rw [len_s, mk_len]
theorem joinL_nil : ∀ ps : List (List Nat), TL.joinL [] ps = ps.flatten
  | [] => rfl
  | [p] => by simp [TL.joinL]
  | p :: q :: r => by
    show p ++ ([] ++ TL.joinL [] (q :: r)) = _
    rw [joinL_nil (q :: r)]
    simp
theorem join_mk (ls : List (List Nat)) : Txt.join (mk []) (ls.map mk) = mk ls.flatten := by
  rw [TL.join_eq, mk_of (Str.join (mk []) (ls.map mk))]
  congr 1
  have := TL.tl_join (mk []) (ls.map mk)
  refine this.trans ?_
  rw [List.map_map]
  have e : (TL.tl ∘ mk) = id := by funext l; exact mk_list l
  rw [e, List.map_id]
  exact joinL_nil ls
theorem strsP_map (l : List Str) : strsP (l.map P.str) = some l := by
  induction l with
  | nil => rfl
  | cons x l ih => show (strsP (l.map P.str)).map (x :: ·) = _; rw [ih]; rfl
theorem blsP_map (l : List Bool) : blsP (l.map P.bl) = some l := by
  induction l with
  | nil => rfl
  | cons x l ih => show (blsP (l.map P.bl)).map (x :: ·) = _; rw [ih]; rfl
theorem intsP_map (l : List Int) : intsP (l.map P.int) = some l := by
  induction l with
  | nil => rfl
  | cons x l ih => show (intsP (l.map P.int)).map (x :: ·) = _; rw [ih]; rfl
theorem sum_len (ls : List (List Nat)) : ((ls.map mk).map Str.length).sum = ls.flatten.length := by
  induction ls with
  | nil => rfl
  | cons p ls ih => simp only [List.map_cons, List.sum_cons, mk_len, ih, List.flatten_cons, List.length_append]
theorem j_join {ls : List (List Nat)} (h : ls.flatten.length ≤ 16777216) : bmtS .join (.p (.str (mk []))) [.p (.lst ((ls.map mk).map P.str))] m = .ok (.p (.str (mk ls.flatten))) m := by
  unfold bmtS joinS seqP seqD
  simp only [allP_map, Option.bind_some, strsP_map, sum_len, mk_len, List.length_nil, Nat.mul_zero, Nat.add_zero, if_pos h, join_mk]
@[simp] theorem all_ (l : List Bool) : bclS .all [.p (.lst (l.map P.bl))] m = .ok (.p (.bl (l.all id))) m := by
  unfold bclS onL
  simp only [rdP, blsP_map]
end
/-! ### comprehensions -/
theorem lc_pure {f : D → Mem → R (Option D)} {t : Its} (ht : t.n = none) {g : D → D} {m : Mem} : ∀ {l : List D}, (∀ x ∈ l, f x m = .ok (some (g x)) m) → lcRun f t l m = .ok (l.map g) m
  | [], _ => by
    unfold lcRun
    rw [if_pos (by unfold Its.held; rw [ht]; trivial)]
    rfl
  | x :: l, h => by
    unfold lcRun
    rw [if_pos (by unfold Its.held; rw [ht]; trivial), h x List.mem_cons_self]
    show (lcRun f t l m).bind _ = _
    rw [lc_pure ht fun y hy => h y (List.mem_cons_of_mem _ hy)]
    rfl
theorem lc_map {α : Type} {f : D → Mem → R (Option D)} {t : Its} (ht : t.n = none) {h g : α → D} {m : Mem} : ∀ {l : List α}, (∀ x ∈ l, f (h x) m = .ok (some (g x)) m) → lcRun f t (l.map h) m = .ok (l.map g) m
  | [], _ => by
    rw [List.map_nil]
    unfold lcRun
    rw [if_pos (by unfold Its.held; rw [ht]; trivial)]
    rfl
  | x :: l, hh => by
    rw [List.map_cons]
    unfold lcRun
    rw [if_pos (by unfold Its.held; rw [ht]; trivial), hh x List.mem_cons_self]
    show (lcRun f t (l.map h) m).bind _ = _
    rw [lc_map ht fun y hy => hh y (List.mem_cons_of_mem _ hy)]
    rfl
theorem lc_filt {f : D → Mem → R (Option D)} {t : Its} (ht : t.n = none) {g : D → Option D} {m : Mem} : ∀ {l : List D}, (∀ x ∈ l, f x m = .ok (g x) m) → lcRun f t l m = .ok (l.filterMap g) m
  | [], _ => by
    unfold lcRun
    rw [if_pos (by unfold Its.held; rw [ht]; trivial)]
    rfl
  | x :: l, h => by
    unfold lcRun
    rw [if_pos (by unfold Its.held; rw [ht]; trivial), h x List.mem_cons_self]
    show (lcRun f t l m).bind _ = _
    rw [lc_filt ht fun y hy => h y (List.mem_cons_of_mem _ hy), List.filterMap_cons]
    cases g x <;> rfl
/-- items that come one by one, the store going on -/
inductive Each (Q : D → D → Prop) : List D → List D → Prop
  | nil : Each Q [] []
  | cons {x y : D} {l r : List D} : Q x y → Each Q l r → Each Q (x :: l) (y :: r)
theorem Each.length {Q : D → D → Prop} : ∀ {l r : List D}, Each Q l r → r.length = l.length
  | _, _, .nil => rfl
  | _, _, .cons _ t => congrArg Nat.succ t.length
theorem lc_each {f : D → Mem → R (Option D)} {t : Its} (ht : t.n = none) {I : Mem → Prop} {Q : D → D → Prop} : ∀ {l : List D}, (∀ x ∈ l, ∀ m, I m → ∃ y m', f x m = .ok (some y) m' ∧ Q x y ∧ I m') → ∀ m, I m → ∃ ys m', lcRun f t l m = .ok ys m' ∧ Each Q l ys ∧ I m'
  | [], _, m, h => ⟨[], m, by unfold lcRun; rw [if_pos (by unfold Its.held; rw [ht]; trivial)], .nil, h⟩
  | x :: l, h, m, hm => by
    obtain ⟨y, m1, e1, q1, i1⟩ := h x List.mem_cons_self m hm
    obtain ⟨ys, m2, e2, q2, i2⟩ := lc_each ht (fun y hy => h y (List.mem_cons_of_mem _ hy)) m1 i1
    refine ⟨y :: ys, m2, ?_, .cons q1 q2, i2⟩
    unfold lcRun
    rw [if_pos (by unfold Its.held; rw [ht]; trivial), e1]
    show (lcRun f t l m1).bind _ = _
    rw [e2]
    rfl
/-- pure data all -/
theorem mkL_p {l : List P} {m : Mem} : mkL false (l.map D.p) m = .ok (.p (.lst l)) m := mkL_ (allP_map l)
theorem mkT_p {l : List P} {m : Mem} : mkT (l.map D.p) m = .ok (.p (.tup l)) m := mkT_ (allP_map l)
/-! ### the drawn -/
abbrev Cl := Nat → List D → Mem → R D
def PullOk (cl : Cl) : Prop := ∀ (m : Mem) (r : Nat) (o : MO) (many : Int), m.get r = some o → BagO o → 0 < many → many < 1073741824 → ∃ v o', cl 3 [.ref r, .p (.int many)] m = .ok (.p (.int v)) (m.put r o') ∧ BagO o' ∧ 0 ≤ v ∧ v < many
theorem pull_ok {p : Pg} {k : Nat} (hf : p.fd 3 = some D__law_pull) : PullOk (callAt p (k + 1)) := fun m r o many h hb h1 h2 => by
  rw [callAt_ok hf]
  exact pull_1 h hb h1 h2
theorem PullOk.nat {cl : Cl} (P : PullOk cl) {m : Mem} {r : Nat} {o : MO} (h : m.get r = some o) (hb : BagO o) (n : Nat) (h1 : 0 < n) (h2 : n < 1073741824) : ∃ v o', cl 3 [.ref r, .p (.int (n : Int))] m = .ok (.p (.int ((v : Nat) : Int))) (m.put r o') ∧ BagO o' ∧ v < n := by
  obtain ⟨v, o', e, b, l, u⟩ := P m r o n h hb (by omega) (by omega)
  obtain ⟨j, rfl⟩ : ∃ j : Nat, v = j := ⟨v.toNat, by omega⟩
  exact ⟨j, o', e, b, by omega⟩
def BagOk (cl : Cl) : Prop := ∀ (m : Mem) (ns : List Int), ns.length ≤ 63 → ∃ o, cl 2 [.p (.scr ns)] m = .ok (.ref m.length) (m.new o) ∧ BagO o
theorem bag_1 {cl : Cl} {gv : Gv} {m : Mem} (ns : List Int) (hl : ns.length ≤ 63) : ∃ o, runD cl gv D__law_bag [.p (.scr ns)] m = .ok (.ref m.length) (m.new o) ∧ BagO o := by
  unfold D__law_bag
  rw [runD_ok (np := 1) rfl]
  have hz : ∀ c : List Int, c.length ≤ 63 → c.length ≤ sizeLine := fun c h => Nat.le_trans h (by rw [PySem.sizeLine_eq]; decide)
  have hc : (cutD ns none (some 63)).length ≤ 63 := by
    unfold cutD
    rw [List.length_take]
    have : HT.sIx ns.length ns.length (some 63) ≤ ns.length := HT.sIx_le _ _ (Nat.le_refl _) _
    omega
  have e1 : slS (.p (.scr ns)) none (some 63) m = .ok (.p (.lst ((cutD ns none (some 63)).map P.int))) m := rfl
  have e2 : bclS .list [.p (.lst ((cutD ns none (some 63)).map P.int))] m = .ok (.p (.lst ((cutD ns none (some 63)).map P.int))) m := by
    exact list_l
  refine ⟨bagO (cutD ns none (some 63)) 0 0 4914 0, ?_, ⟨_, _, _, _, _, rfl, by decide, by decide, by decide, by decide⟩⟩
  simp [B__law_bag_0, e1, e2]
  rfl
theorem bag_ok {p : Pg} {k : Nat} (hf : p.fd 2 = some D__law_bag) : BagOk (callAt p (k + 1)) := fun m ns hl => by
  rw [callAt_ok hf]
  exact bag_1 ns hl
/-- one of some: a list, a text -/
def OfL (cl : Cl) : Prop := ∀ (m : Mem) (r : Nat) (o : MO) (l : List P), m.get r = some o → BagO o → l ≠ [] → l.length < 1073741824 → ∃ x o', cl 4 [.ref r, .p (.lst l)] m = .ok (.p x) (m.put r o') ∧ BagO o' ∧ x ∈ l
def OfS (cl : Cl) : Prop := ∀ (m : Mem) (r : Nat) (o : MO) (l : List Nat), m.get r = some o → BagO o → l ≠ [] → l.length ≤ sizeLine → ∃ c o', cl 4 [.ref r, .p (.str (mk l))] m = .ok (.p (.str (mk [c]))) (m.put r o') ∧ BagO o' ∧ c ∈ l
section
variable {cl : Cl} {gv : Gv} {r : Nat} {m : Mem} {o : MO}
theorem of_l1 (P1 : PullOk cl) (h : m.get r = some o) (hb : BagO o) {l : List P} (h1 : l ≠ []) (h2 : l.length < 1073741824) :
    ∃ x o', runD cl gv D__law_of [.ref r, .p (.lst l)] m = .ok (.p x) (m.put r o') ∧ BagO o' ∧ x ∈ l := by
  obtain ⟨j, o', e, b', hj⟩ := P1.nat h hb l.length (List.length_pos_iff.mpr h1) h2
  refine ⟨l[j], o', ?_, b', List.getElem_mem hj⟩
  unfold D__law_of
  rw [runD_ok (np := 2) rfl]
  simp [B__law_of_0, e, ix_l (List.getElem?_eq_getElem hj), trim_put (bag_flat b')]
theorem of_s1 (P1 : PullOk cl) (h : m.get r = some o) (hb : BagO o) {l : List Nat} (h1 : l ≠ []) (h2 : l.length ≤ sizeLine) :
    ∃ c o', runD cl gv D__law_of [.ref r, .p (.str (mk l))] m = .ok (.p (.str (mk [c]))) (m.put r o') ∧ BagO o' ∧ c ∈ l := by
  have hz : sizeLine < 1073741824 := by rw [PySem.sizeLine_eq]; decide
  obtain ⟨j, o', e, b', hj⟩ := P1.nat h hb l.length (List.length_pos_iff.mpr h1) (by omega)
  refine ⟨l[j], o', ?_, b', List.getElem_mem hj⟩
  unfold D__law_of
  rw [runD_ok (np := 2) rfl]
  simp [B__law_of_0, e, ix_s (List.getElem?_eq_getElem hj), trim_put (bag_flat b')]
end
theorem ofl_ok {p : Pg} {k : Nat} (hp : p.fd 3 = some D__law_pull) (hf : p.fd 4 = some D__law_of) : OfL (callAt p (k + 2)) := fun m r o l h hb h1 h2 => by
  rw [callAt_ok hf]
  exact of_l1 (pull_ok hp) h hb h1 h2
theorem ofs_ok {p : Pg} {k : Nat} (hp : p.fd 3 = some D__law_pull) (hf : p.fd 4 = some D__law_of) : OfS (callAt p (k + 2)) := fun m r o l h hb h1 h2 => by
  rw [callAt_ok hf]
  exact of_s1 (pull_ok hp) h hb h1 h2
end Dn
end

/-! Dn, part W: drawn words; kinds; equal data. -/
noncomputable section
namespace Dn
open PySem PySem.Spec PyProof.Rows L2
def alpha : List Nat := (List.range 26).map (97 + ·)
theorem alpha_str : Str.ofString "abcdefghijklmnopqrstuvwxyz" = mk alpha := by decide +kernel
theorem empty_str : Str.ofString "" = mk [] := by decide +kernel
theorem alpha_mem {c : Nat} : c ∈ alpha ↔ 97 ≤ c ∧ c ≤ 122 := by
  unfold alpha
  rw [List.mem_map]
  constructor
  · rintro ⟨i, hi, rfl⟩
    have := List.mem_range.mp hi
    omega
  · rintro ⟨h1, h2⟩
    exact ⟨c - 97, List.mem_range.mpr (by omega), by omega⟩
theorem alpha_len : alpha.length = 26 := by decide
theorem alpha_get {i : Nat} (h : i < 26) : alpha[i]? = some (97 + i) := by
  unfold alpha
  rw [List.getElem?_map, List.getElem?_range h]
  rfl
/-- a name -/
def IsNm (l : List Nat) : Prop := 1 ≤ l.length ∧ l.length ≤ 6 ∧ ∀ c ∈ l, 97 ≤ c ∧ c ≤ 122
theorem line_le {n : Nat} (h : n ≤ 16777216) : n ≤ sizeLine := by rw [PySem.sizeLine_eq]; exact h
theorem rng_ {n : Nat} (h : n ≤ 16777216) : itRng (.p (.int (n : Int))) = some ⟨(List.range n).map fun (k : Nat) => .p (.int (k : Int)), none⟩ := by
  have : itRng (.p (.int (n : Int))) = if -(2 ^ 62) ≤ (n : Int) ∧ (n : Int) ≤ sizeLine then some ⟨(List.range (n : Int).toNat).map fun (k : Nat) => .p (.int (k : Int)), none⟩ else none := rfl
  have z := line_le h
  rw [this, if_pos ⟨by omega, by omega⟩]
  rfl
/-- texts of one sign each -/
def sgns (cs : List Nat) : List P := cs.map fun c => .str (mk [c])
theorem sgns_len (cs : List Nat) : (sgns cs).length = cs.length := by simp [sgns]
theorem each_sgn {S : List Nat} : ∀ {l ys : List D}, Each (fun _ y => ∃ c ∈ S, y = .p (.str (mk [c]))) l ys → ∃ cs : List Nat, ys = (sgns cs).map D.p ∧ cs.length = l.length ∧ ∀ c ∈ cs, c ∈ S
  | _, _, .nil => ⟨[], rfl, rfl, fun _ h => by cases h⟩
  | _, _, .cons ⟨c, hc, e⟩ t => by
    obtain ⟨cs, e1, e2, e3⟩ := each_sgn t
    refine ⟨c :: cs, by rw [e, e1]; rfl, congrArg Nat.succ e2, fun z hz => ?_⟩
    rcases List.mem_cons.mp hz with h | h
    · rw [h]; exact hc
    · exact e3 z h
theorem flat_sgn (cs : List Nat) : (cs.map fun c => [c]).flatten = cs := by
  induction cs with
  | nil => rfl
  | cons c l ih => rw [List.map_cons, List.flatten_cons, ih]; rfl
theorem join_sgns {cs : List Nat} {m : Mem} (h : cs.length ≤ 16777216) : bmtS .join (.p (.str (mk []))) [.p (.lst (sgns cs))] m = .ok (.p (.str (mk cs))) m := by
  have e : sgns cs = ((cs.map fun c => [c]).map mk).map P.str := by simp [sgns, Function.comp_def]
  rw [e, j_join (by rw [flat_sgn]; omega), flat_sgn]
/-- the letter put in for the k-th word -/
def wordAt (stem : List Nat) (a f k : Nat) : List Nat := stem.take a ++ ([97 + (f + 7 * k) % 26] ++ stem.drop a)
def wordP (stem : List Nat) (a f k : Nat) : P := .str (mk (wordAt stem a f k))
section
variable {cl : Cl} {gv : Gv} {r : Nat} {m : Mem} {o : MO}
theorem words_1 (P1 : PullOk cl) (O1 : OfS cl) (h : m.get r = some o) (hb : BagO o) (n : Nat) (hn : n ≤ 1000000) :
    ∃ (stem : List Nat) (a f : Nat) (o' : MO), runD cl gv D__law_words [.ref r, .p (.int n)] m = .ok (.p (.lst ((List.range n).map (wordP stem a f)))) (m.put r o') ∧ BagO o' ∧ stem.length ≤ 5 ∧ (∀ c ∈ stem, 97 ≤ c ∧ c ≤ 122) ∧ a ≤ stem.length ∧ f < 26 := by
  unfold D__law_words
  rw [runD_ok (np := 2) rfl]
  obtain ⟨j1, o1, e1, b1, u1⟩ := P1.nat h hb 6 (by decide) (by decide)
  have alp := alpha_str
  have emp := empty_str
  -- the stem
  have hl := lc_each (f := turn (denC cl gv .none) (den cl gv (.call 4 (.cons (.var 0) (.cons (.var 2) .nil)))) (.nm 6) (wipeD [some (.ref r), some (.p (.int n)), some (.p (.str (mk alpha))), none, none, none, none] [6])) (t := ⟨(List.range j1).map fun (k : Nat) => .p (.int (k : Int)), none⟩) rfl
    (I := fun m' => ∃ o', m' = m.put r o' ∧ BagO o') (Q := fun _ y => ∃ c ∈ alpha, y = .p (.str (mk [c]))) (l := (List.range j1).map fun (k : Nat) => .p (.int (k : Int)))
    (fun x _ m' ⟨o2, em, b2⟩ => by
      subst em
      obtain ⟨c, o3, e3, b3, hc⟩ := O1 (m.put r o2) r o2 alpha (Mem.get_put h) b2 (by decide) (line_le (by rw [alpha_len]; omega))
      refine ⟨.p (.str (mk [c])), m.put r o3, ?_, ⟨c, hc, rfl⟩, o3, rfl, b3⟩
      rw [Mem.put_put] at e3
      simp [turn_, wipeD, e3]) (m.put r o1) ⟨o1, rfl, b1⟩
  obtain ⟨ys, m2, e2, q2, o2, rfl, b2⟩ := hl
  obtain ⟨cs, rfl, cl', hcs⟩ := each_sgn q2
  rw [List.length_map, List.length_range] at cl'
  have hz : cs.length ≤ 5 := by omega
  obtain ⟨a, o3, e3, b3, u3⟩ := P1.nat (m := m.put r o2) (Mem.get_put h) b2 (cs.length + 1) (by omega) (by omega)
  rw [Mem.put_put] at e3
  obtain ⟨f, o4, e4, b4, u4⟩ := P1.nat (m := m.put r o3) (Mem.get_put h) b3 26 (by decide) (by decide)
  rw [Mem.put_put] at e4
  refine ⟨cs, a, f, o4, ?_, b4, hz, fun c hc => alpha_mem.mp (hcs c hc), by omega, u4⟩
  have s1 : den cl gv (.lc false (.call 4 (.cons (.var 0) (.cons (.var 2) .nil))) (.nm 6) (.rng (.call 3 (.cons (.var 0) (.cons (.cst (.int 6)) .nil)))) .none [6]) [some (.ref r), some (.p (.int n)), some (.p (.str (mk alpha))), none, none, none, none] m = .ok (.p (.lst (sgns cs))) (m.put r o2) := by
    rw [v_lc]
    have e1' : cl 3 [.ref r, .p (.int 6)] m = .ok (.p (.int (j1 : Int))) (m.put r o1) := e1
    simp [e1', rng_ (show j1 ≤ 16777216 by omega)]
    rw [e2]
    exact mkL_p
  simp [B__law_words_3, B__law_words_2, alp, emp, s1, bmPre, bmL, join_sgns (show cs.length ≤ 16777216 by omega)]
  have e3' : cl 3 [.ref r, .p (.int ((cs.length : Int) + 1))] (m.put r o2) = .ok (.p (.int (a : Int))) (m.put r o3) := e3
  have e4' : cl 3 [.ref r, .p (.int 26)] (m.put r o3) = .ok (.p (.int (f : Int))) (m.put r o4) := e4
  simp [B__law_words_1, e3', e4']
  rw [B__law_words_0]
  simp [v_lc, rng_ (show n ≤ 16777216 by omega)]
  rw [lc_map (g := fun k => .p (wordP cs a f k)) rfl fun j hj => ?_]
  · have e : (List.range n).map (fun k => D.p (wordP cs a f k)) = ((List.range n).map (wordP cs a f)).map D.p := by simp [Function.comp_def]
    simp only [R.bind_ok, e]
    rw [mkL_p]
    simp [trim_put (bag_flat b4)]
  · have ei : ixS (.p (.str (mk alpha))) (.p (.int (((f : Int) + 7 * (j : Int)) % 26))) (m.put r o4) = .ok (.p (.str (mk [97 + (f + 7 * j) % 26]))) (m.put r o4) := by
      have : ((f : Int) + 7 * (j : Int)) % 26 = (((f + 7 * j) % 26 : Nat) : Int) := by omega
      rw [this]
      exact ix_s (alpha_get (Nat.mod_lt _ (by decide)))
    have z : cs.length ≤ sizeLine := line_le (by omega)
    simp [turn_, wipeD, s_to, s_from, o_mulL, o_mod, ei, wordP]
    rw [o_cat (line_le (by simp; omega))]
    simp
    rw [o_cat (line_le (by simp; omega))]
    simp [wordAt]
theorem wordAt_nm {stem : List Nat} {a f k : Nat} (h1 : stem.length ≤ 5) (h2 : ∀ c ∈ stem, 97 ≤ c ∧ c ≤ 122) (h3 : a ≤ stem.length) : IsNm (wordAt stem a f k) := by
  unfold wordAt IsNm
  refine ⟨by simp; omega, by simp; omega, fun c hc => ?_⟩
  rcases List.mem_append.mp hc with h | h
  · exact h2 c (List.mem_of_mem_take h)
  rcases List.mem_append.mp h with h | h
  · have : c = 97 + (f + 7 * k) % 26 := by simpa using h
    omega
  · exact h2 c (List.mem_of_mem_drop h)
end
/-! ### kinds -/
theorem ty_of {d : D} {m : Mem} {k : Nat ⊕ String} (h : kindS d m = some k) : ∀ c : List Ty, isTys c d m = some (c.any fun t => isK t k)
  | [] => rfl
  | t :: c => by
    have e : isTy t d m = some (isK t k) := by unfold isTy; rw [h]; rfl
    unfold isTys
    rw [e, List.any_cons]
    cases isK t k with
    | true => rfl
    | false => exact (ty_of h c).trans (by simp)
@[simp] theorem ty_non_int {m : Mem} : isTys [.int] (.p .non) m = some false := (ty_of (k := .inr "NoneType") rfl _).trans (by decide)
@[simp] theorem ty_non_bool {m : Mem} : isTys [.bool] (.p .non) m = some false := (ty_of (k := .inr "NoneType") rfl _).trans (by decide)
@[simp] theorem ty_non_str {m : Mem} : isTys [.str] (.p .non) m = some false := (ty_of (k := .inr "NoneType") rfl _).trans (by decide)
@[simp] theorem ty_non_list {m : Mem} : isTys [.list] (.p .non) m = some false := (ty_of (k := .inr "NoneType") rfl _).trans (by decide)
@[simp] theorem ty_non_tuple {m : Mem} : isTys [.tuple] (.p .non) m = some false := (ty_of (k := .inr "NoneType") rfl _).trans (by decide)
@[simp] theorem ty_non_dict {m : Mem} : isTys [.dict] (.p .non) m = some false := (ty_of (k := .inr "NoneType") rfl _).trans (by decide)
@[simp] theorem ty_non_lt {m : Mem} : isTys [.list, .tuple] (.p .non) m = some false := (ty_of (k := .inr "NoneType") rfl _).trans (by decide)
@[simp] theorem isN_non : isN (.p .non) = true := Eq.trans rfl rfl
@[simp] theorem ty_bl_int {b : Bool} {m : Mem} : isTys [.int] (.p (.bl b)) m = some true := (ty_of (k := .inr "bool") rfl _).trans (by decide)
@[simp] theorem ty_bl_bool {b : Bool} {m : Mem} : isTys [.bool] (.p (.bl b)) m = some true := (ty_of (k := .inr "bool") rfl _).trans (by decide)
@[simp] theorem ty_bl_str {b : Bool} {m : Mem} : isTys [.str] (.p (.bl b)) m = some false := (ty_of (k := .inr "bool") rfl _).trans (by decide)
@[simp] theorem ty_bl_list {b : Bool} {m : Mem} : isTys [.list] (.p (.bl b)) m = some false := (ty_of (k := .inr "bool") rfl _).trans (by decide)
@[simp] theorem ty_bl_tuple {b : Bool} {m : Mem} : isTys [.tuple] (.p (.bl b)) m = some false := (ty_of (k := .inr "bool") rfl _).trans (by decide)
@[simp] theorem ty_bl_dict {b : Bool} {m : Mem} : isTys [.dict] (.p (.bl b)) m = some false := (ty_of (k := .inr "bool") rfl _).trans (by decide)
@[simp] theorem ty_bl_lt {b : Bool} {m : Mem} : isTys [.list, .tuple] (.p (.bl b)) m = some false := (ty_of (k := .inr "bool") rfl _).trans (by decide)
@[simp] theorem isN_bl {b : Bool} : isN (.p (.bl b)) = false := Eq.trans rfl rfl
@[simp] theorem ty_int_int {i : Int} {m : Mem} : isTys [.int] (.p (.int i)) m = some true := (ty_of (k := .inr "int") rfl _).trans (by decide)
@[simp] theorem ty_int_bool {i : Int} {m : Mem} : isTys [.bool] (.p (.int i)) m = some false := (ty_of (k := .inr "int") rfl _).trans (by decide)
@[simp] theorem ty_int_str {i : Int} {m : Mem} : isTys [.str] (.p (.int i)) m = some false := (ty_of (k := .inr "int") rfl _).trans (by decide)
@[simp] theorem ty_int_list {i : Int} {m : Mem} : isTys [.list] (.p (.int i)) m = some false := (ty_of (k := .inr "int") rfl _).trans (by decide)
@[simp] theorem ty_int_tuple {i : Int} {m : Mem} : isTys [.tuple] (.p (.int i)) m = some false := (ty_of (k := .inr "int") rfl _).trans (by decide)
@[simp] theorem ty_int_dict {i : Int} {m : Mem} : isTys [.dict] (.p (.int i)) m = some false := (ty_of (k := .inr "int") rfl _).trans (by decide)
@[simp] theorem ty_int_lt {i : Int} {m : Mem} : isTys [.list, .tuple] (.p (.int i)) m = some false := (ty_of (k := .inr "int") rfl _).trans (by decide)
@[simp] theorem isN_int {i : Int} : isN (.p (.int i)) = false := Eq.trans rfl rfl
@[simp] theorem ty_str_int {z : Str} {m : Mem} : isTys [.int] (.p (.str z)) m = some false := (ty_of (k := .inr "str") rfl _).trans (by decide)
@[simp] theorem ty_str_bool {z : Str} {m : Mem} : isTys [.bool] (.p (.str z)) m = some false := (ty_of (k := .inr "str") rfl _).trans (by decide)
@[simp] theorem ty_str_str {z : Str} {m : Mem} : isTys [.str] (.p (.str z)) m = some true := (ty_of (k := .inr "str") rfl _).trans (by decide)
@[simp] theorem ty_str_list {z : Str} {m : Mem} : isTys [.list] (.p (.str z)) m = some false := (ty_of (k := .inr "str") rfl _).trans (by decide)
@[simp] theorem ty_str_tuple {z : Str} {m : Mem} : isTys [.tuple] (.p (.str z)) m = some false := (ty_of (k := .inr "str") rfl _).trans (by decide)
@[simp] theorem ty_str_dict {z : Str} {m : Mem} : isTys [.dict] (.p (.str z)) m = some false := (ty_of (k := .inr "str") rfl _).trans (by decide)
@[simp] theorem ty_str_lt {z : Str} {m : Mem} : isTys [.list, .tuple] (.p (.str z)) m = some false := (ty_of (k := .inr "str") rfl _).trans (by decide)
@[simp] theorem isN_str {z : Str} : isN (.p (.str z)) = false := Eq.trans rfl rfl
@[simp] theorem ty_lst_int {l : List P} {m : Mem} : isTys [.int] (.p (.lst l)) m = some false := (ty_of (k := .inr "list") rfl _).trans (by decide)
@[simp] theorem ty_lst_bool {l : List P} {m : Mem} : isTys [.bool] (.p (.lst l)) m = some false := (ty_of (k := .inr "list") rfl _).trans (by decide)
@[simp] theorem ty_lst_str {l : List P} {m : Mem} : isTys [.str] (.p (.lst l)) m = some false := (ty_of (k := .inr "list") rfl _).trans (by decide)
@[simp] theorem ty_lst_list {l : List P} {m : Mem} : isTys [.list] (.p (.lst l)) m = some true := (ty_of (k := .inr "list") rfl _).trans (by decide)
@[simp] theorem ty_lst_tuple {l : List P} {m : Mem} : isTys [.tuple] (.p (.lst l)) m = some false := (ty_of (k := .inr "list") rfl _).trans (by decide)
@[simp] theorem ty_lst_dict {l : List P} {m : Mem} : isTys [.dict] (.p (.lst l)) m = some false := (ty_of (k := .inr "list") rfl _).trans (by decide)
@[simp] theorem ty_lst_lt {l : List P} {m : Mem} : isTys [.list, .tuple] (.p (.lst l)) m = some true := (ty_of (k := .inr "list") rfl _).trans (by decide)
@[simp] theorem isN_lst {l : List P} : isN (.p (.lst l)) = false := Eq.trans rfl rfl
@[simp] theorem ty_tup_int {l : List P} {m : Mem} : isTys [.int] (.p (.tup l)) m = some false := (ty_of (k := .inr "tuple") rfl _).trans (by decide)
@[simp] theorem ty_tup_bool {l : List P} {m : Mem} : isTys [.bool] (.p (.tup l)) m = some false := (ty_of (k := .inr "tuple") rfl _).trans (by decide)
@[simp] theorem ty_tup_str {l : List P} {m : Mem} : isTys [.str] (.p (.tup l)) m = some false := (ty_of (k := .inr "tuple") rfl _).trans (by decide)
@[simp] theorem ty_tup_list {l : List P} {m : Mem} : isTys [.list] (.p (.tup l)) m = some false := (ty_of (k := .inr "tuple") rfl _).trans (by decide)
@[simp] theorem ty_tup_tuple {l : List P} {m : Mem} : isTys [.tuple] (.p (.tup l)) m = some true := (ty_of (k := .inr "tuple") rfl _).trans (by decide)
@[simp] theorem ty_tup_dict {l : List P} {m : Mem} : isTys [.dict] (.p (.tup l)) m = some false := (ty_of (k := .inr "tuple") rfl _).trans (by decide)
@[simp] theorem ty_tup_lt {l : List P} {m : Mem} : isTys [.list, .tuple] (.p (.tup l)) m = some true := (ty_of (k := .inr "tuple") rfl _).trans (by decide)
@[simp] theorem isN_tup {l : List P} : isN (.p (.tup l)) = false := Eq.trans rfl rfl
/-! ### equal data -/
mutual
/-- plain data, no list longer than a line -/
def P.pl : P → Bool
  | .non => true
  | .bl _ => true
  | .int _ => true
  | .str _ => true
  | .tup l => plL l && decide (l.length ≤ 16777216)
  | .lst l => plL l && decide (l.length ≤ 16777216)
  | _ => false
def plL : List P → Bool
  | [] => true
  | x :: l => x.pl && plL l
end
mutual
def P.dep : P → Nat
  | .tup l => depL l + 1
  | .lst l => depL l + 1
  | _ => 0
def depL : List P → Nat
  | [] => 0
  | x :: l => max x.dep (depL l)
end
theorem pl_mem : ∀ {l : List P}, plL l = true → ∀ x ∈ l, x.pl = true ∧ x.dep ≤ depL l
  | [], _, x, h => by cases h
  | y :: l, e, x, h => by
    have e : (y.pl && plL l) = true := e
    rw [Bool.and_eq_true] at e
    have d : depL (y :: l) = max y.dep (depL l) := rfl
    rw [d]
    rcases List.mem_cons.mp h with h | h
    · rw [h]; exact ⟨e.1, Nat.le_max_left _ _⟩
    · obtain ⟨a, b⟩ := pl_mem e.2 x h
      exact ⟨a, Nat.le_trans b (Nat.le_max_right _ _)⟩
theorem zip_self (l : List P) : zipP l l = l.map fun x => .p (.tup [x, x]) := by
  induction l with
  | nil => rfl
  | cons x l ih => show _ :: zipP l l = _; rw [ih]; rfl
@[simp] theorem asg_2 {i j : Nat} {x y : P} {m : Mem} {δ : Sl} : asgT (.tp (.cons (.nm i) (.cons (.nm j) .nil))) (.p (.tup [x, y])) m δ = some ((δ.set i (some (.p x))).set j (some (.p y))) := Eq.trans rfl rfl
@[simp] theorem zip_l {l r : List P} : itZip (.p (.lst l)) (.p (.lst r)) = some ⟨zipP l r, none⟩ := Eq.trans rfl rfl
@[simp] theorem zip_t {l r : List P} : itZip (.p (.tup l)) (.p (.tup r)) = some ⟨zipP l r, none⟩ := Eq.trans rfl rfl
def SameOk (cl : Cl) (n : Nat) : Prop := ∀ (m : Mem) (x : P), x.pl = true → x.dep < n → cl 5 [.p x, .p x] m = .ok (.p (.bl true)) m
section
variable {cl : Cl} {gv : Gv} {m : Mem}
theorem same_l {l : List P} (h : ∀ x ∈ l, cl 5 [.p x, .p x] m = .ok (.p (.bl true)) m) (hz : l.length ≤ 16777216) {t : Its} (ht : t.n = none) {δ : Sl} (hd : δ.length = 4) :
    (lcRun (turn (denC cl gv .none) (den cl gv (.call 5 (.cons (.var 2) (.cons (.var 3) .nil)))) (.tp (.cons (.nm 2) (.cons (.nm 3) .nil))) δ) t (l.map fun x => .p (.tup [x, x])) m).bind (mkL false) = .ok (.p (.lst ((l.map fun _ => true).map P.bl))) m := by
  rw [lc_map (g := fun _ => .p (.bl true)) ht fun x hx => ?_]
  · have e : (l.map fun _ => D.p (.bl true)) = ((l.map fun _ => true).map P.bl).map D.p := by simp [Function.comp_def]
    rw [e]
    exact mkL_p
  · match δ, hd with
    | [a, b, c, d], _ => simp [turn_, h x hx]
theorem same_1 {x : P} (hx : x.pl = true) (h : ∀ y : P, y.pl = true → y.dep < x.dep → cl 5 [.p y, .p y] m = .ok (.p (.bl true)) m) : runD cl gv D__law_same [.p x, .p x] m = .ok (.p (.bl true)) m := by
  unfold D__law_same
  rw [runD_ok (np := 2) rfl]
  cases x with
  | non => simp [B__law_same_12, B__law_same_11]
  | bl b => simp [B__law_same_12, B__law_same_10, B__law_same_9]
  | int i => simp [B__law_same_12, B__law_same_10, B__law_same_8, B__law_same_2, B__law_same_0]
  | str z => simp [B__law_same_12, B__law_same_10, B__law_same_8, B__law_same_2, B__law_same_0]
  | tup l =>
    have hx' : plL l = true ∧ l.length ≤ 16777216 := by
      have e : (plL l && decide (l.length ≤ 16777216)) = true := hx
      rw [Bool.and_eq_true] at e
      exact ⟨e.1, of_decide_eq_true e.2⟩
    have key := fun (δ : Sl) hd => same_l (cl := cl) (gv := gv) (m := m) (l := l) (δ := δ) (t := ⟨l.map fun x => .p (.tup [x, x]), none⟩) (fun y hy => h y (pl_mem hx'.1 y hy).1 (Nat.lt_succ_of_le (pl_mem hx'.1 y hy).2)) hx'.2 rfl hd
    simp [B__law_same_12, B__law_same_10, B__law_same_8, B__law_same_7, B__law_same_5, B__law_same_3, v_lc, zip_self, wipeD]
    rw [key _ rfl]
    simp only [R.bind_ok, l_nil, bo_all, all_]
    simp
  | lst l =>
    have hx' : plL l = true ∧ l.length ≤ 16777216 := by
      have e : (plL l && decide (l.length ≤ 16777216)) = true := hx
      rw [Bool.and_eq_true] at e
      exact ⟨e.1, of_decide_eq_true e.2⟩
    have key := fun (δ : Sl) hd => same_l (cl := cl) (gv := gv) (m := m) (l := l) (δ := δ) (t := ⟨l.map fun x => .p (.tup [x, x]), none⟩) (fun y hy => h y (pl_mem hx'.1 y hy).1 (Nat.lt_succ_of_le (pl_mem hx'.1 y hy).2)) hx'.2 rfl hd
    simp [B__law_same_12, B__law_same_10, B__law_same_8, B__law_same_7, B__law_same_5, B__law_same_3, v_lc, zip_self, wipeD]
    rw [key _ rfl]
    simp only [R.bind_ok, l_nil, bo_all, all_]
    simp
  | _ => cases hx
end
theorem same_ok {p : Pg} (hf : p.fd 5 = some D__law_same) : ∀ n k : Nat, SameOk (callAt p (n + k)) n
  | 0, k => fun m x _ h => absurd h (Nat.not_lt_zero _)
  | n + 1, k => fun m x hx hd => by
    have : n + 1 + k = (n + k) + 1 := by omega
    rw [this, callAt_ok hf]
    exact same_1 hx fun y hy hd2 => same_ok hf n k m y hy (by omega)
end Dn
end

/-! Dn, part X: names and numbers. -/
noncomputable section
namespace Dn
open PySem PySem.Spec PyProof.Rows L2
theorem in_sgn {c : Nat} {l : List Nat} {m : Mem} : cmpS .inn (.p (.str (mk [c]))) (.p (.str (mk l))) m = .ok (.p (.bl (decide (c ∈ l)))) m := Eq.trans rfl rfl
theorem it_mk {l : List Nat} {m : Mem} : itSeq (.p (.str (mk l))) m = some ⟨l.map fun c => .p (.str (mk [c])), none⟩ := Eq.trans rfl rfl
@[simp] theorem its_lst {l : List P} {m : Mem} : itSeq (.p (.lst l)) m = some ⟨l.map D.p, none⟩ := Eq.trans rfl rfl
@[simp] theorem its_tup {l : List P} {m : Mem} : itSeq (.p (.tup l)) m = some ⟨l.map D.p, none⟩ := Eq.trans rfl rfl
/-- is it a name -/
def nmL (l : List Nat) : Bool := decide (1 ≤ l.length) && decide (l.length ≤ 6) && l.all fun c => decide (c ∈ alpha)
def nmP : P → Bool
  | .str z => nmL z.cps.toList
  | _ => false
theorem nmL_ok {l : List Nat} (h : IsNm l) : nmL l = true := by
  unfold nmL
  rw [Bool.and_eq_true, Bool.and_eq_true]
  refine ⟨⟨decide_eq_true h.1, decide_eq_true h.2.1⟩, List.all_eq_true.mpr fun c hc => decide_eq_true (alpha_mem.mpr (h.2.2 c hc))⟩
theorem nmL_bad {l : List Nat} {c : Nat} (hc : c ∈ l) (h : ¬ (97 ≤ c ∧ c ≤ 122)) : nmL l = false := by
  unfold nmL
  rw [Bool.and_eq_false_iff]
  right
  rw [List.all_eq_false]
  exact ⟨c, hc, by simpa using fun z => h (alpha_mem.mp z)⟩
theorem nmL_long {l : List Nat} (h : 6 < l.length) : nmL l = false := by
  unfold nmL
  rw [decide_eq_false (by omega : ¬ l.length ≤ 6)]
  simp
/-- what a test of one value may be asked -/
def P.ask : P → Bool
  | .non => true
  | .bl _ => true
  | .int _ => true
  | .str z => decide (z.length ≤ 16777216)
  | .tup _ => true
  | .lst _ => true
  | _ => false
section
variable {cl : Cl} {gv : Gv} {m : Mem}
theorem is_name_1 (g0 : gv.c 0 = .str (mk alpha)) (g1 : gv.c 1 = .int 6) {x : P} (hx : x.ask = true) : runD cl gv D_is_name [.p x] m = .ok (.p (.bl (nmP x))) m := by
  unfold D_is_name
  rw [runD_ok (np := 1) rfl]
  cases x with
  | non => simp [B_is_name_2, B_is_name_1, nmP]
  | bl b => simp [B_is_name_2, B_is_name_1, nmP]
  | int i => simp [B_is_name_2, B_is_name_1, nmP]
  | tup l => simp [B_is_name_2, B_is_name_1, nmP]
  | lst l => simp [B_is_name_2, B_is_name_1, nmP]
  | str z =>
    have hz : z.cps.toList.length ≤ 16777216 := of_decide_eq_true hx
    show trimR m (endS (denB cl gv B_is_name_2 (startD 2 [.p (.str z)]) m)) = .ok (.p (.bl (nmL z.cps.toList))) m
    rw [mk_of z]
    generalize z.cps.toList = l at *
    rw [mk_list]
    by_cases c1 : 1 ≤ l.length
    · by_cases c2 : l.length ≤ 6
      · have c1' : (1 : Int) ≤ (l.length : Int) := by omega
        have c2' : (l.length : Int) ≤ 6 := by omega
        simp [B_is_name_2, g1, c1', c2', B_is_name_0, v_lc, it_mk]
        rw [lc_map (g := fun c => .p (.bl (decide (c ∈ alpha)))) rfl fun c hc => by simp [turn_, wipeD, g0, in_sgn]]
        have e : (l.map fun c => D.p (.bl (decide (c ∈ alpha)))) = ((l.map fun c => decide (c ∈ alpha)).map P.bl).map D.p := by simp [Function.comp_def]
        simp only [R.bind_ok, e]
        rw [mkL_p]
        simp only [R.bind_ok, l_nil, bo_all, all_]
        simp [nmL, c1, c2, List.all_map, Function.comp_def]
      · have c2' : ¬ (l.length : Int) ≤ 6 := by omega
        have c1' : (1 : Int) ≤ (l.length : Int) := by omega
        simp [B_is_name_2, g1, c1', c2', B_is_name_1, nmL, c2]
    · have c1' : ¬ (1 : Int) ≤ (l.length : Int) := by omega
      simp [B_is_name_2, g1, c1', B_is_name_1, nmL, c1]
  | _ => cases hx
def nuP : P → Bool
  | .int _ => true
  | _ => false
theorem is_number_1 {x : P} (hx : x.ask = true) : runD cl gv D_is_number [.p x] m = .ok (.p (.bl (nuP x))) m := by
  unfold D_is_number
  rw [runD_ok (np := 1) rfl]
  cases x with
  | non => simp [B_is_number_0, nuP]
  | bl b => simp [B_is_number_0, nuP]
  | int i => simp [B_is_number_0, nuP]
  | tup l => simp [B_is_number_0, nuP]
  | lst l => simp [B_is_number_0, nuP]
  | str z => simp [B_is_number_0, nuP]
  | _ => cases hx
end
def NameOk (cl : Cl) : Prop := ∀ (m : Mem) (x : P), x.ask = true → cl 1 [.p x] m = .ok (.p (.bl (nmP x))) m
def NumOk (cl : Cl) : Prop := ∀ (m : Mem) (x : P), x.ask = true → cl 0 [.p x] m = .ok (.p (.bl (nuP x))) m
theorem name_ok {p : Pg} {k : Nat} (hf : p.fd 1 = some D_is_name) (g0 : p.gv.c 0 = .str (mk alpha)) (g1 : p.gv.c 1 = .int 6) : NameOk (callAt p (k + 1)) := fun m x hx => by
  rw [callAt_ok hf]
  exact is_name_1 g0 g1 hx
theorem num_ok {p : Pg} {k : Nat} (hf : p.fd 0 = some D_is_number) : NumOk (callAt p (k + 1)) := fun m x hx => by
  rw [callAt_ok hf]
  exact is_number_1 hx
/-- drawn words -/
def WordsOk (cl : Cl) : Prop := ∀ (m : Mem) (r : Nat) (o : MO) (n : Nat), m.get r = some o → BagO o → n ≤ 1000000 → ∃ (stem : List Nat) (a f : Nat) (o' : MO), cl 6 [.ref r, .p (.int n)] m = .ok (.p (.lst ((List.range n).map (wordP stem a f)))) (m.put r o') ∧ BagO o' ∧
  stem.length ≤ 5 ∧ (∀ c ∈ stem, 97 ≤ c ∧ c ≤ 122) ∧ a ≤ stem.length ∧ f < 26
theorem words_ok {p : Pg} {k : Nat} (hp : p.fd 3 = some D__law_pull) (ho : p.fd 4 = some D__law_of) (hf : p.fd 6 = some D__law_words) : WordsOk (callAt p (k + 3)) := fun m r o n h hb hn => by
  rw [callAt_ok hf]
  exact words_1 (pull_ok hp) (ofs_ok hp ho) h hb n hn
end Dn
end

/-! Dn, part Z: signatures as data. -/
noncomputable section
namespace Dn
open PySem PySem.Spec PyProof.Rows L2
abbrev Tx := List Nat
def S1 (l : Tx) : P := .str (mk l)
structure Op where
  nm : Tx
  ar : List Tx
  rs : Tx
deriving DecidableEq
def Op.p (o : Op) : P := .tup [S1 o.nm, .tup (o.ar.map S1), S1 o.rs]
def Op.kv (o : Op) : P × P := (S1 o.nm, .tup [.tup (o.ar.map S1), S1 o.rs])
structure Sg where
  ss : List Tx
  ops : List Op
deriving DecidableEq
def Sg.p (g : Sg) : P := .ins 0 [(2, .tup (g.ss.map S1)), (1, .tup (g.ops.map Op.p)), (0, .dct false (g.ops.map Op.kv))]
structure Op.ok (ss : List Tx) (o : Op) : Prop where
  n : IsNm o.nm
  l : o.ar.length ≤ 3
  a : ∀ x ∈ o.ar, x ∈ ss
  r : o.rs ∈ ss
structure Sg.ok (g : Sg) : Prop where
  s1 : 1 ≤ g.ss.length
  s3 : g.ss.length ≤ 3
  sn : ∀ s ∈ g.ss, IsNm s
  sd : g.ss.Nodup
  o1 : 1 ≤ g.ops.length
  o5 : g.ops.length ≤ 5
  oo : ∀ o ∈ g.ops, o.ok g.ss
  od : (g.ops.map Op.nm).Nodup
/-! ### == on it -/
theorem eqv_s (a b : Tx) : PyData.eqv (S1 a).py (S1 b).py = decide (a = b) := by
  show (mk a == mk b) = _
  rw [Bool.eq_iff_iff]
  simp [mk_inj]
theorem eqvAll_map {α : Type} [DecidableEq α] {f : α → P} (h : ∀ a b, PyData.eqv (f a).py (f b).py = decide (a = b)) : ∀ l r : List α, PyData.eqvAll (pyL (l.map f)) (pyL (r.map f)) = decide (l = r)
  | [], [] => rfl
  | [], _ :: _ => rfl
  | _ :: _, [] => rfl
  | x :: l, y :: r => by
    show (PyData.eqv (f x).py (f y).py && PyData.eqvAll (pyL (l.map f)) (pyL (r.map f))) = _
    rw [h, eqvAll_map h l r, Bool.eq_iff_iff]
    simp
theorem eqv_op (a b : Op) : PyData.eqv a.p.py b.p.py = decide (a = b) := by
  show (PyData.eqv (S1 a.nm).py (S1 b.nm).py && (PyData.eqvAll (pyL (a.ar.map S1)) (pyL (b.ar.map S1)) && (PyData.eqv (S1 a.rs).py (S1 b.rs).py && true))) = _
  rw [eqv_s, eqvAll_map eqv_s, eqv_s, Bool.eq_iff_iff]
  obtain ⟨x, y, z⟩ := a
  obtain ⟨x', y', z'⟩ := b
  simp
/-! ### may it be compared -/
def Sm (x : Tx) : Prop := ∀ c ∈ x, c < 1114112
theorem IsNm.sm {x : Tx} (h : IsNm x) : Sm x := fun c hc => by have := h.2.2 c hc; omega
structure Gd (n : Nat) (x : P) : Prop where
  d : x.dat = true
  c : x.py.canLay0 = true
  e : x.py.depth ≤ n
theorem Gd.shp {n : Nat} {x : P} (h : Gd n x) (hn : n ≤ 64) : x.shp = true := by
  unfold P.shp SeqAt.shaped
  rw [h.d, h.c, decide_eq_true (Nat.le_trans h.e hn)]
  rfl
theorem gd_s {a : Tx} (h : Sm a) : Gd 1 (S1 a) := ⟨rfl, by
  show ((mk a).cps.all (· < 0x110000)) = true
  unfold mk
  simpa [Sm] using h, by show PyData.depth (.str (mk a)) ≤ 1; simp [PyData.depth]⟩
theorem gdL {n : Nat} : ∀ {l : List P}, (∀ x ∈ l, Gd n x) → datL l = true ∧ PyData.canLayAll0 (pyL l) = true ∧ PyData.depthAll (pyL l) ≤ n
  | [], _ => ⟨rfl, rfl, by show PyData.depthAll [] ≤ n; simp [PyData.depthAll]⟩
  | x :: l, h => by
    obtain ⟨a, b, c⟩ := gdL fun y hy => h y (List.mem_cons_of_mem _ hy)
    obtain ⟨a', b', c'⟩ := h x List.mem_cons_self
    refine ⟨?_, ?_, ?_⟩
    · show (x.dat && datL l) = true
      rw [a, a']; rfl
    · show (x.py.canLay0 && PyData.canLayAll0 (pyL l)) = true
      rw [b, b']; rfl
    · show PyData.depthAll (x.py :: pyL l) ≤ n
      simp only [PyData.depthAll]
      omega
theorem gd_tup {n : Nat} {l : List P} (h : ∀ x ∈ l, Gd n x) : Gd (n + 1) (.tup l) := by
  obtain ⟨a, b, c⟩ := gdL h
  exact ⟨a, b, by show PyData.depth (.tuple (pyL l)) ≤ n + 1; simp only [PyData.depth]; omega⟩
theorem gd_lst {n : Nat} {l : List P} (h : ∀ x ∈ l, Gd n x) : Gd (n + 1) (.lst l) := by
  obtain ⟨a, b, c⟩ := gdL h
  exact ⟨a, b, by show PyData.depth (.list (pyL l)) ≤ n + 1; simp only [PyData.depth]; omega⟩
theorem Gd.up {n k : Nat} {x : P} (h : Gd n x) (hk : n ≤ k) : Gd k x := ⟨h.d, h.c, Nat.le_trans h.e hk⟩
theorem gd_ss {l : List Tx} (h : ∀ s ∈ l, Sm s) : ∀ x ∈ l.map S1, Gd 1 x := fun x hx => by
  obtain ⟨s, hs, rfl⟩ := List.mem_map.mp hx
  exact gd_s (h s hs)
def Op.sm (o : Op) : Prop := Sm o.nm ∧ (∀ a ∈ o.ar, Sm a) ∧ Sm o.rs
theorem gd_op {o : Op} (h : o.sm) : Gd 3 o.p := gd_tup fun x hx => by
  simp only [List.mem_cons, List.not_mem_nil, or_false] at hx
  rcases hx with rfl | rfl | rfl
  · exact (gd_s h.1).up (by omega)
  · exact gd_tup (gd_ss h.2.1)
  · exact (gd_s h.2.2).up (by omega)
theorem gd_ops {l : List Op} (h : ∀ s ∈ l, s.sm) : ∀ x ∈ l.map Op.p, Gd 3 x := fun x hx => by
  obtain ⟨s, hs, rfl⟩ := List.mem_map.mp hx
  exact gd_op (h s hs)
theorem Sg.ok.smS {g : Sg} (h : g.ok) : ∀ s ∈ g.ss, Sm s := fun s hs => (h.sn s hs).sm
theorem Sg.ok.smO {g : Sg} (h : g.ok) : ∀ o ∈ g.ops, o.sm := fun o ho => by
  have k := h.oo o ho
  exact ⟨k.n.sm, fun a ha => h.smS a (k.a a ha), h.smS _ k.r⟩
theorem eqP_shp {x y : P} (hx : x.shp = true) (hy : y.shp = true) (hs : ∀ a, x ≠ .str a) : eqP x y = some (PyData.eqv x.py y.py) := by
  unfold eqP
  split
  · exact absurd rfl (hs _)
  · rw [hx, hy]
    rfl
section
variable {m : Mem}
theorem k_eqSS {a b : List Tx} (ha : ∀ s ∈ a, Sm s) (hb : ∀ s ∈ b, Sm s) : cmpS .eq (.p (.lst (a.map S1))) (.p (.lst (b.map S1))) m = .ok (.p (.bl (decide (a = b)))) m := by
  show oB (eqP _ _) m = _
  rw [eqP_shp ((gd_lst (gd_ss ha)).shp (by decide)) ((gd_lst (gd_ss hb)).shp (by decide)) (fun _ h => by cases h)]
  show R.ok (D.p (.bl (PyData.eqvAll (pyL (a.map S1)) (pyL (b.map S1))))) m = _
  rw [eqvAll_map eqv_s]
theorem k_eqTT {a b : List Tx} (ha : ∀ s ∈ a, Sm s) (hb : ∀ s ∈ b, Sm s) : cmpS .eq (.p (.tup (a.map S1))) (.p (.tup (b.map S1))) m = .ok (.p (.bl (decide (a = b)))) m := by
  show oB (eqP _ _) m = _
  rw [eqP_shp ((gd_tup (gd_ss ha)).shp (by decide)) ((gd_tup (gd_ss hb)).shp (by decide)) (fun _ h => by cases h)]
  show R.ok (D.p (.bl (PyData.eqvAll (pyL (a.map S1)) (pyL (b.map S1))))) m = _
  rw [eqvAll_map eqv_s]
theorem k_eqOO {a b : List Op} (ha : ∀ s ∈ a, s.sm) (hb : ∀ s ∈ b, s.sm) : cmpS .eq (.p (.lst (a.map Op.p))) (.p (.lst (b.map Op.p))) m = .ok (.p (.bl (decide (a = b)))) m := by
  show oB (eqP _ _) m = _
  rw [eqP_shp ((gd_lst (gd_ops ha)).shp (by decide)) ((gd_lst (gd_ops hb)).shp (by decide)) (fun _ h => by cases h)]
  show R.ok (D.p (.bl (PyData.eqvAll (pyL (a.map Op.p)) (pyL (b.map Op.p))))) m = _
  rw [eqvAll_map eqv_op]
theorem k_eqPP {a b : List Op} (ha : ∀ s ∈ a, s.sm) (hb : ∀ s ∈ b, s.sm) : cmpS .eq (.p (.tup (a.map Op.p))) (.p (.tup (b.map Op.p))) m = .ok (.p (.bl (decide (a = b)))) m := by
  show oB (eqP _ _) m = _
  rw [eqP_shp ((gd_tup (gd_ops ha)).shp (by decide)) ((gd_tup (gd_ops hb)).shp (by decide)) (fun _ h => by cases h)]
  show R.ok (D.p (.bl (PyData.eqvAll (pyL (a.map Op.p)) (pyL (b.map Op.p))))) m = _
  rw [eqvAll_map eqv_op]
theorem any_s {l : List Tx} {x : Tx} : ((l.map S1).any fun z => PyData.eqv z.py (S1 x).py) = decide (x ∈ l) := by
  rw [Bool.eq_iff_iff]
  simp only [List.any_eq_true, List.mem_map, decide_eq_true_eq]
  constructor
  · rintro ⟨_, ⟨y, hy, rfl⟩, e⟩
    rw [eqv_s] at e
    rw [← of_decide_eq_true e]
    exact hy
  · intro h
    exact ⟨_, ⟨x, h, rfl⟩, by rw [eqv_s]; simp⟩
theorem in_l {l : List Tx} {x : Tx} (hl : ∀ s ∈ l, Sm s) (hx : Sm x) : cmpS .inn (.p (S1 x)) (.p (.lst (l.map S1))) m = .ok (.p (.bl (decide (x ∈ l)))) m := by
  show oB (if (S1 x).shp && (P.lst (l.map S1)).shp then some _ else none) m = _
  rw [(gd_s hx).shp (by decide), (gd_lst (gd_ss hl)).shp (by decide), any_s]
  rfl
theorem flat_s (l : List Tx) : (l.map S1).all flatP = true := List.all_eq_true.mpr fun x hx => by
  obtain ⟨s, _, rfl⟩ := List.mem_map.mp hx
  rfl
theorem in_t {l : List Tx} {x : Tx} : cmpS .inn (.p (S1 x)) (.p (.tup (l.map S1))) m = .ok (.p (.bl (decide (x ∈ l)))) m := by
  show oB (if flatP (S1 x) && (l.map S1).all flatP then some _ else none) m = _
  rw [flat_s, any_s]
  rfl
end
/-! ### a list or a tuple, in the store or not -/
inductive Vw (m : Mem) : D → List P → Prop
  | l (l : List P) : Vw m (.p (.lst l)) l
  | t (l : List P) : Vw m (.p (.tup l)) l
  | r (n : Nat) (l : List P) (h : m.get n = some (.lst (l.map D.p))) : Vw m (.ref n) l
theorem Mem.get_new {m : Mem} {o u : MO} {n : Nat} (h : m.get n = some u) : (m.new o).get n = some u := by
  have : n < m.length := (List.getElem?_eq_some_iff.mp (get_some h)).1
  unfold Mem.get
  rw [Dn.get_new, if_pos this]
  exact h
theorem Vw.new {m : Mem} {d : D} {l : List P} (h : Vw m d l) (o : MO) : Vw (m.new o) d l := by
  cases h with
  | l l => exact .l l
  | t l => exact .t l
  | r n l h => exact .r n l (Mem.get_new h)
section
variable {m : Mem} {d : D} {l : List P}
theorem Vw.cls (h : Vw m d l) : clsS d m = none := by
  cases h with
  | l l => rfl
  | t l => rfl
  | r n l h => unfold clsS; simp only [h]
theorem Vw.ty (h : Vw m d l) : isTys [.list, .tuple] d m = some true := by
  cases h with
  | l l => simp
  | t l => simp
  | r n l h => exact (ty_of (k := .inr "list") (by unfold kindS; simp only [h]) _).trans (by decide)
theorem Vw.len (h : Vw m d l) : bclS .len [d] m = .ok (.p (.int (l.length : Int))) m := by
  cases h with
  | l l => simp
  | t l => simp
  | r n l h =>
    show lenS (.ref n) m = _
    unfold lenS seqD
    simp only [h, List.length_map]
theorem Vw.seq (h : Vw m d l) : ∃ t : Its, itSeq d m = some t ∧ t.l = l.map D.p ∧ t.held m := by
  cases h with
  | l l => exact ⟨_, rfl, rfl, trivial⟩
  | t l => exact ⟨_, rfl, rfl, trivial⟩
  | r n l h => exact ⟨⟨l.map D.p, some (n, l.map D.p)⟩, by unfold itSeq; simp only [h], rfl, h⟩
theorem Vw.enum (h : Vw m d l) : ∃ t : Its, itEnum d m = some t ∧ t.l = enumP 0 l ∧ t.held m := by
  cases h with
  | l l => exact ⟨_, rfl, rfl, trivial⟩
  | t l => exact ⟨_, rfl, rfl, trivial⟩
  | r n l h => exact ⟨⟨enumP 0 l, some (n, l.map D.p)⟩, by unfold itEnum; simp only [h, allP_map], rfl, h⟩
theorem Vw.tuple (h : Vw m d l) : bclS .tuple [d] m = .ok (.p (.tup l)) m := by
  cases h with
  | l l => simp
  | t l => simp
  | r n l h =>
    show tupleS (.ref n) m = _
    unfold tupleS seqD
    simp only [h]
    rw [if_neg (by intro h; cases h)]
    exact mkT_p
theorem cut_take {α : Type} (l : List α) (k : Nat) : cutD l none (some (k : Int)) = l.take k := by
  unfold cutD
  rw [HT.sIx_none, HT.sIx_nat, List.drop_zero, Nat.sub_zero, Nat.min_comm]
  by_cases h : k ≤ l.length
  · rw [Nat.min_eq_right h]
  · rw [Nat.min_eq_left (by omega), List.take_of_length_le (Nat.le_refl _), List.take_of_length_le (by omega)]
theorem cut_drop {α : Type} (l : List α) (k : Nat) : cutD l (some (k : Int)) none = l.drop k := by
  unfold cutD
  rw [HT.sIx_none, HT.sIx_nat]
  by_cases h : k ≤ l.length
  · rw [Nat.min_eq_left h, List.take_of_length_le (by simp)]
  · rw [Nat.min_eq_right (by omega), List.drop_of_length_le (Nat.le_refl _), List.drop_of_length_le (by omega), List.take_nil]
theorem Vw.to (h : Vw m d l) (k : Nat) : slS d none (some (k : Int)) m = .ok (.p (.lst (l.take k))) m ∨ slS d none (some (k : Int)) m = .ok (.p (.tup (l.take k))) m := by
  cases h with
  | l l => left; show R.ok (D.p (.lst (cutD l _ _))) m = _; rw [cut_take]
  | t l => right; show R.ok (D.p (.tup (cutD l _ _))) m = _; rw [cut_take]
  | r n l h => left; unfold slS; simp only [h, allP_map, cut_take]
end
theorem Vw.in_ {m : Mem} {d : D} {l : List Tx} {x : Tx} (h : Vw m d (l.map S1)) (hl : ∀ s ∈ l, Sm s) (hx : Sm x) : cmpS .inn (.p (S1 x)) d m = .ok (.p (.bl (decide (x ∈ l)))) m := by
  generalize e : l.map S1 = q at h
  cases h with
  | l q => subst e; exact in_l hl hx
  | t q => subst e; exact in_t
  | r n q h =>
    subst e
    refine Eq.trans ?_ (in_l (m := m) hl hx)
    show cmpB inP (.p (S1 x)) (.ref n) m = cmpB inP (.p (S1 x)) (.p (.lst (l.map S1))) m
    unfold cmpB
    have : rdP m (.ref n) = some (.lst (l.map S1)) := by
      show (match m.get n with | some (.lst l) => (allP l).map P.lst | _ => none) = _
      simp only [h, allP_map]
      rfl
    rw [this]
    rfl
theorem lc_mapH {α : Type} {f : D → Mem → R (Option D)} {t : Its} {m : Mem} (ht : t.held m) {h g : α → D} : ∀ {l : List α}, (∀ x ∈ l, f (h x) m = .ok (some (g x)) m) → lcRun f t (l.map h) m = .ok (l.map g) m
  | [], _ => by
    rw [List.map_nil]
    unfold lcRun
    rw [if_pos ht]
    rfl
  | x :: l, hh => by
    rw [List.map_cons]
    unfold lcRun
    rw [if_pos ht, hh x List.mem_cons_self]
    show (lcRun f t (l.map h) m).bind _ = _
    rw [lc_mapH ht fun y hy => hh y (List.mem_cons_of_mem _ hy)]
    rfl
theorem enum_zip : ∀ (k : Nat) (l : List P), enumP k l = (l.zipIdx k).map fun q => D.p (.tup [.int (q.2 : Int), q.1])
  | _, [] => rfl
  | k, x :: l => by
    show D.p (.tup [.int (k : Int), x]) :: enumP (k + 1) l = _
    rw [enum_zip (k + 1) l]
    rfl
@[simp] theorem any_b (l : List Bool) {m : Mem} : bclS .any [.p (.lst (l.map P.bl))] m = .ok (.p (.bl (l.any id))) m := by
  unfold bclS onL
  simp only [rdP, blsP_map]
end Dn
end

/-! Dn, part ZA: a signature is made. -/
noncomputable section
namespace Dn
open PySem PySem.Spec PyProof.Rows L2
structure SigGv (gv : Gv) : Prop where
  ini : gv.ini 0 = some 8
  fk0 : gv.fk 0 0 = true
  fk1 : gv.fk 0 1 = true
  fk2 : gv.fk 0 2 = true
  c0 : gv.c 0 = .str (mk alpha)
  c1 : gv.c 1 = .int 6
  c2 : gv.c 2 = .int 3
  cc0 : gv.cc 0 0 = some (.int 5)
  cc1 : gv.cc 0 1 = some (.int 3)
  om0 : gv.om 0 0 = some 9
  om1 : gv.om 0 1 = some 10
  om2 : gv.om 0 2 = some 11
  om3 : gv.om 0 3 = some 12
/-- .. its methods' numbers, too -/
structure SigMt (gv : Gv) : Prop where
  G : SigGv gv
  m0 : gv.mt 0 0 = some 15
  m1 : gv.mt 0 1 = some 16
  m2 : gv.mt 0 2 = some 17
  m3 : gv.mt 0 3 = some 18
  m4 : gv.mt 0 4 = some 19
  m5 : gv.mt 0 5 = some 20
  m6 : gv.mt 0 6 = some 21
  m7 : gv.mt 0 7 = some 22
  m8 : gv.mt 0 8 = some 27
theorem nd_take : ∀ {l : List Tx}, l.Nodup → ∀ {i : Nat} {x : Tx}, l[i]? = some x → x ∉ l.take i
  | [], _, i, x, e => by simp at e
  | a :: l, h, 0, x, e => by simp
  | a :: l, h, i + 1, x, e => by
    rw [List.nodup_cons] at h
    have e : l[i]? = some x := e
    rw [List.take_succ_cons, List.mem_cons]
    rintro (c | c)
    · exact h.1 (c ▸ List.mem_of_getElem? e)
    · exact nd_take h.2 e c
theorem ix_t {m : Mem} {l : List P} {k : Nat} {x : P} (e : l[k]? = some x) : ixS (.p (.tup l)) (.p (.int (k : Int))) m = .ok (.p x) m := by
  unfold ixS seqD
  have : (l.map D.p)[k]? = some (.p x) := by rw [List.getElem?_map, e]; rfl
  simp only
  rw [atI_nat this]
@[simp] theorem ix_t0 {m : Mem} {a : P} {l : List P} : ixS (.p (.tup (a :: l))) (.p (.int 0)) m = .ok (.p a) m := ix_t (k := 0) rfl
@[simp] theorem ix_t1 {m : Mem} {a b : P} {l : List P} : ixS (.p (.tup (a :: b :: l))) (.p (.int 1)) m = .ok (.p b) m := ix_t (k := 1) rfl
@[simp] theorem ix_t2 {m : Mem} {a b c : P} {l : List P} : ixS (.p (.tup (a :: b :: c :: l))) (.p (.int 2)) m = .ok (.p c) m := ix_t (k := 2) rfl
@[simp] theorem ix_l0 {m : Mem} {a : P} {l : List P} : ixS (.p (.lst (a :: l))) (.p (.int 0)) m = .ok (.p a) m := ix_l (k := 0) rfl
@[simp] theorem ix_l1 {m : Mem} {a b : P} {l : List P} : ixS (.p (.lst (a :: b :: l))) (.p (.int 1)) m = .ok (.p b) m := ix_l (k := 1) rfl
@[simp] theorem asg_3 {i j k : Nat} {x y z : P} {m : Mem} {δ : Sl} : asgT (.tp (.cons (.nm i) (.cons (.nm j) (.cons (.nm k) .nil)))) (.p (.tup [x, y, z])) m δ = some (((δ.set i (some (.p x))).set j (some (.p y))).set k (some (.p z))) := Eq.trans rfl rfl
@[simp] theorem seq_t {m : Mem} {l : List P} : seqD m (.p (.tup l)) = some (l.map D.p) := Eq.trans rfl rfl
@[simp] theorem seq_l {m : Mem} {l : List P} : seqD m (.p (.lst l)) = some (l.map D.p) := Eq.trans rfl rfl
theorem lst_bl {α : Type} {l : List α} {f : α → Bool} {m : Mem} : mkL false (l.map fun x => D.p (.bl (f x))) m = .ok (.p (.lst (l.map fun x => .bl (f x)))) m := by
  have e : (l.map fun x => D.p (.bl (f x))) = (l.map fun x => P.bl (f x)).map D.p := by simp [Function.comp_def]
  rw [e]
  exact mkL_p
theorem all_f {α : Type} {l : List α} {f : α → Bool} {m : Mem} : bclS .all [.p (.lst (l.map fun x => .bl (f x)))] m = .ok (.p (.bl (l.all f))) m := by
  have e : (l.map fun x => P.bl (f x)) = (l.map f).map P.bl := by simp [Function.comp_def]
  rw [e, all_]
  simp [Function.comp_def]
theorem any_f {α : Type} {l : List α} {f : α → Bool} {m : Mem} : bclS .any [.p (.lst (l.map fun x => .bl (f x)))] m = .ok (.p (.bl (l.any f))) m := by
  have e : (l.map fun x => P.bl (f x)) = (l.map f).map P.bl := by simp [Function.comp_def]
  rw [e, any_b]
  simp [Function.comp_def]
def ListedOk (cl : Cl) : Prop := ∀ m d l, Vw m d l → cl 26 [d] m = .ok (.p (.bl true)) m
def DiffOk (cl : Cl) : Prop := ∀ (m : Mem) d (l : List Tx), Vw m d (l.map S1) → (∀ s ∈ l, Sm s) → l.Nodup → cl 24 [d] m = .ok (.p (.bl true)) m
def SortsOk (cl : Cl) : Prop := ∀ (m : Mem) d (ss xs : List Tx), Vw m d (ss.map S1) → (∀ s ∈ ss, Sm s) → (∀ x ∈ xs, x ∈ ss) → cl 28 [.p (.lst (xs.map S1)), d] m = .ok (.p (.bl true)) m
def OpOk (cl : Cl) : Prop := ∀ (m : Mem) d (ss : List Tx) (o : Op), Vw m d (ss.map S1) → (∀ s ∈ ss, Sm s) → o.ok ss → cl 25 [.p o.p, d] m = .ok (.p (.bl true)) m
def InitOk (cl : Cl) : Prop := ∀ (m : Mem) d1 d2 (g : Sg), g.ok → Vw m d1 (g.ss.map S1) → Vw m d2 (g.ops.map Op.p) → cl 8 [.ref m.length, d1, d2] (m.new (.ins 0 [])) = .ok (.p .non) (m.new (.ins 0 [(2, .p (.tup (g.ss.map S1))), (1, .p (.tup (g.ops.map Op.p))), (0, .p (.dct false (g.ops.map Op.kv)))]))
section
variable {cl : Cl} {gv : Gv}
theorem listed_1 {m : Mem} {d : D} {l : List P} (h : Vw m d l) : runD cl gv D_is_listed [d] m = .ok (.p (.bl true)) m := by
  unfold D_is_listed
  rw [runD_ok (np := 1) rfl]
  simp [B_is_listed_0, h.ty]
theorem diff_1 {m : Mem} {d : D} {l : List Tx} (h : Vw m d (l.map S1)) (hs : ∀ s ∈ l, Sm s) (hn : l.Nodup) : runD cl gv D_are_different [d] m = .ok (.p (.bl true)) m := by
  unfold D_are_different
  rw [runD_ok (np := 1) rfl]
  obtain ⟨t, e1, e2, e3⟩ := h.enum
  simp [B_are_different_0, v_lc, e1]
  rw [e2, enum_zip, lc_mapH e3 (g := fun _ => .p (.bl false)) fun q hq => ?_]
  · simp only [R.bind_ok]
    rw [lst_bl]
    simp only [R.bind_ok, l_nil, bo_any, bo_all, all_f, any_f]
    simp
  · obtain ⟨x, i⟩ := q
    have hq : (l.map S1)[i]? = some x := List.mem_zipIdx_iff_getElem?.mp hq
    rw [List.getElem?_map, Option.map_eq_some_iff] at hq
    obtain ⟨y, hy, rfl⟩ := hq
    have no := nd_take hn hy
    have hy' : Sm y := hs y (List.mem_of_getElem? hy)
    have ht : ∀ s ∈ l.take i, Sm s := fun s hs' => hs s (List.mem_of_mem_take hs')
    have z1 := in_l (m := m) ht hy'
    have z2 := in_t (m := m) (l := l.take i) (x := y)
    rw [List.map_take, decide_eq_false no] at z1 z2
    rcases h.to i with e | e
    · simp [turn_, wipeD, e, z1]
    · simp [turn_, wipeD, e, z2]
theorem sorts_1 {m : Mem} {d : D} {ss xs : List Tx} (h : Vw m d (ss.map S1)) (hs : ∀ s ∈ ss, Sm s) (hx : ∀ x ∈ xs, x ∈ ss) : runD cl gv D_are_sorts [.p (.lst (xs.map S1)), d] m = .ok (.p (.bl true)) m := by
  unfold D_are_sorts
  rw [runD_ok (np := 2) rfl]
  simp [B_are_sorts_0, v_lc]
  rw [lc_map (g := fun _ => .p (.bl true)) rfl fun x hx' => ?_]
  · simp only [R.bind_ok]
    rw [lst_bl]
    simp only [R.bind_ok, l_nil, bo_any, bo_all, all_f, any_f]
    simp
  · have k := hx x hx'
    have z := h.in_ hs (hs x k)
    have ty : isTys [.str] (.p (S1 x)) m = some true := ty_str_str
    simp [turn_, wipeD, ty, h.cls, z, k]
theorem op_1 (N : NameOk cl) (L : SortsOk cl) (G : gv.c 2 = .int 3) {m : Mem} {d : D} {ss : List Tx} {o : Op} (h : Vw m d (ss.map S1)) (hs : ∀ s ∈ ss, Sm s) (ho : o.ok ss) : runD cl gv D_is_operation [.p o.p, d] m = .ok (.p (.bl true)) m := by
  unfold D_is_operation
  rw [runD_ok (np := 2) rfl]
  have nm : cl 1 [.p (S1 o.nm)] m = .ok (.p (.bl true)) m := by
    rw [N m (S1 o.nm) (decide_eq_true (by show (mk o.nm).length ≤ _; have := ho.n.2.1; rw [mk_len]; omega))]
    show R.ok (D.p (.bl (nmL o.nm))) m = _
    rw [nmL_ok ho.n]
  have ls : cl 28 [.p (.lst ((o.ar ++ [o.rs]).map S1)), d] m = .ok (.p (.bl true)) m := L m d ss _ h hs fun x hx => by
    rcases List.mem_append.mp hx with k | k
    · exact ho.a x k
    · have : x = o.rs := by simpa using k
      exact this ▸ ho.r
  rw [List.map_append] at ls
  have la : (o.ar.length : Int) ≤ 3 := by have := ho.l; omega
  have lz : (o.ar.map fun x => D.p (S1 x)).length + 1 ≤ sizeLine := by have := ho.l; rw [List.length_map]; exact line_le (by omega)
  have ll : lnS (m := m) false (mkL false) ((o.ar.map fun x => D.p (S1 x)) ++ [.p (S1 o.rs)]) = .ok (.p (.lst (o.ar.map S1 ++ [o.rs].map S1))) m := by
    rw [← List.map_append, lnS_f (by simpa using lz)]
    have : (o.ar.map fun x => D.p (S1 x)) ++ [.p (S1 o.rs)] = ((o.ar ++ [o.rs]).map S1).map D.p := by simp [Function.comp_def]
    rw [this]
    exact mkL_p
  unfold Op.p
  simp [B_is_operation_2, B_is_operation_0, nm, G, la]
  have e : (D.p ∘ S1) = fun x => D.p (S1 x) := rfl
  rw [e, ll]
  simp only [List.map_cons, List.map_nil] at ls
  simp [ls]
end
end Dn
end

/-! Dn, part ZB: a signature's __init__, and frz of a new one. -/
noncomputable section
namespace Dn
open PySem PySem.Spec PyProof.Rows L2
theorem Mem.get_last {m : Mem} {o : MO} : (m.new o).get m.length = some o := by
  unfold Mem.get
  rw [Dn.get_new, if_neg (Nat.lt_irrefl _), if_pos rfl]
  rfl
theorem Mem.put_last {m : Mem} {o u : MO} : (m.new o).put m.length u = m.new u := by
  unfold Mem.put Mem.new
  rw [List.set_append_right _ _ (Nat.le_refl _), Nat.sub_self]
  rfl
theorem Mem.kill_last {m : Mem} {o : MO} : (m.new o).kill m.length = m ++ [none] := by
  unfold Mem.kill Mem.new
  rw [List.set_append_right _ _ (Nat.le_refl _), Nat.sub_self]
  rfl
theorem fset_new {gv : Gv} {c f : Nat} {m : Mem} {l : List (Nat × D)} {v : D} (h1 : gv.fk c f = true) (h2 : l.length < 100) : fsetS gv f (.ref m.length) v (m.new (.ins c l)) = .ok () (m.new (.ins c (setF l f v))) := by
  unfold fsetS
  simp only [Mem.get_last, h1, h2, Mem.put_last, and_self, if_true]
theorem trim_new {m : Mem} {o u : MO} {x : P} (h : u.flat = true) : trimR (m.new o) (.ok (.p x) (m.new u)) = .ok (.p x) (m.new u) := by
  have := trim_put (m := m.new o) (r := m.length) (x := x) h
  rwa [Mem.put_last] at this
theorem putP_new {acc : List Op} {n : Tx} (h : n ∉ acc.map Op.nm) {v : P} : putP (acc.map Op.kv) false (S1 n) v = some (acc.map Op.kv ++ [(S1 n, v)]) := by
  show some (if ((acc.map Op.kv).any fun kv => decide (keyP kv.1 = some (.inr (mk n)))) = true then _ else _) = _
  rw [if_neg]
  rw [List.any_map, List.any_eq_true]
  rintro ⟨o, ho, e⟩
  have e : (some (Sum.inr (mk o.nm)) : Option Key) = some (.inr (mk n)) := of_decide_eq_true e
  injection e with e
  injection e with e
  exact h (List.mem_map.mpr ⟨o, ho, mk_inj.mp e⟩)
theorem dc_ops {f : D → Mem → R (Option (P × P))} {t : Its} {m : Mem} (ht : t.held m) : ∀ {l acc : List Op}, ((acc ++ l).map Op.nm).Nodup → (∀ o ∈ l, f (.p o.p) m = .ok (some o.kv) m) → dcRun false f t (l.map fun (o : Op) => D.p o.p) (acc.map Op.kv) m = .ok (.p (.dct false ((acc ++ l).map Op.kv))) m
  | [], acc, _, _ => by
    rw [List.map_nil, List.append_nil]
    unfold dcRun
    rw [if_pos ht]
  | o :: l, acc, hn, hf => by
    rw [List.map_cons]
    unfold dcRun
    rw [if_pos ht, hf o List.mem_cons_self]
    have no : o.nm ∉ acc.map Op.nm := by
      rw [List.map_append, List.nodup_append] at hn
      intro h
      exact hn.2.2 _ h _ (by simp) rfl
    have e : putP (acc.map Op.kv) false (S1 o.nm) (.tup [.tup (o.ar.map S1), S1 o.rs]) = some ((acc ++ [o]).map Op.kv) := by
      rw [putP_new no, List.map_append]
      rfl
    show (match putP (acc.map Op.kv) false (S1 o.nm) (.tup [.tup (o.ar.map S1), S1 o.rs]) with | some acc' => dcRun false f t (l.map fun (o : Op) => D.p o.p) acc' m | none => .no) = _
    rw [e]
    have ee : acc ++ o :: l = (acc ++ [o]) ++ l := by simp
    rw [ee]
    exact dc_ops ht (by rw [← ee]; exact hn) fun y hy => hf y (List.mem_cons_of_mem _ hy)
section
variable {cl : Cl} {gv : Gv}
theorem init_1 (N : NameOk cl) (A : ListedOk cl) (B : DiffOk cl) (C : OpOk cl) (G : SigGv gv) {m : Mem} {d1 d2 : D} {g : Sg} (hg : g.ok) (v1 : Vw m d1 (g.ss.map S1)) (v2 : Vw m d2 (g.ops.map Op.p)) :
    runD cl gv D_Signature_dd__init_dd_ [.ref m.length, d1, d2] (m.new (.ins 0 [])) = .ok (.p .non) (m.new (.ins 0 [(2, .p (.tup (g.ss.map S1))), (1, .p (.tup (g.ops.map Op.p))), (0, .p (.dct false (g.ops.map Op.kv)))])) := by
  unfold D_Signature_dd__init_dd_
  rw [runD_ok (np := 3) rfl]
  generalize hM : m.new (.ins 0 []) = M
  have w1 : Vw M d1 (g.ss.map S1) := hM ▸ v1.new _
  have w2 : Vw M d2 (g.ops.map Op.p) := hM ▸ v2.new _
  have a1 : den cl gv (.lc false (.call 1 (.cons (.var 7) .nil)) (.nm 7) (.seq (.var 1)) .none [7]) [some (.ref m.length), some d1, some d2, none, none, none, none, none] M = .ok (.p (.lst (g.ss.map fun _ => .bl true))) M := by
    obtain ⟨t, e1, e2, e3⟩ := w1.seq
    rw [v_lc]
    simp [e1]
    rw [e2, List.map_map, lc_mapH e3 (h := D.p ∘ S1) (g := fun _ => .p (.bl true)) fun x hx => ?_]
    · exact lst_bl
    · have e : cl 1 [.p (S1 x)] M = .ok (.p (.bl true)) M := by
        rw [N M (S1 x) (decide_eq_true (by show (mk x).length ≤ _; have := (hg.sn x hx).2.1; rw [mk_len]; omega))]
        show R.ok (D.p (.bl (nmL x))) M = _
        rw [nmL_ok (hg.sn x hx)]
      simp [turn_, wipeD, e]
  have a2 : den cl gv (.lc false (.call 25 (.cons (.var 6) (.cons (.var 1) .nil))) (.nm 6) (.seq (.var 2)) .none [6]) [some (.ref m.length), some d1, some d2, none, none, none, none, none] M = .ok (.p (.lst (g.ops.map fun _ => .bl true))) M := by
    obtain ⟨t, e1, e2, e3⟩ := w2.seq
    rw [v_lc]
    simp [e1]
    rw [e2, List.map_map, lc_mapH e3 (h := D.p ∘ Op.p) (g := fun _ => .p (.bl true)) fun x hx => ?_]
    · exact lst_bl
    · have e := C M d1 g.ss x w1 hg.smS (hg.oo x hx)
      simp [turn_, wipeD, e]
  have a3 : den cl gv (.lc false (.ix (.var 6) (.cst (.int 0))) (.nm 6) (.seq (.var 2)) .none [6]) [some (.ref m.length), some d1, some d2, none, none, none, none, none] M = .ok (.p (.lst ((g.ops.map Op.nm).map S1))) M := by
    obtain ⟨t, e1, e2, e3⟩ := w2.seq
    rw [v_lc]
    simp [e1]
    rw [e2, List.map_map, lc_mapH e3 (h := D.p ∘ Op.p) (g := fun o => .p (S1 o.nm)) fun x hx => ?_]
    · have : (g.ops.map fun o => D.p (S1 o.nm)) = (g.ops.map (S1 ∘ Op.nm)).map D.p := by simp [Function.comp_def]
      simp only [R.bind_ok, this]
      exact mkL_p
    · simp [turn_, wipeD, Op.p]
  have b1 := A M d1 _ w1
  have b2 := A M d2 _ w2
  have b3 := B M d1 g.ss w1 hg.smS hg.sd
  have b4 := B M (.p (.lst ((g.ops.map Op.nm).map S1))) (g.ops.map Op.nm) (.l _) (fun s hs => by obtain ⟨o, ho, rfl⟩ := List.mem_map.mp hs; exact (hg.smO o ho).1) hg.od
  have l1 : (1 : Int) ≤ ((g.ss.map S1).length : Int) := by have := hg.s1; rw [List.length_map]; omega
  have l2 : ((g.ss.map S1).length : Int) ≤ 3 := by have := hg.s3; rw [List.length_map]; omega
  have l3 : (1 : Int) ≤ ((g.ops.map Op.p).length : Int) := by have := hg.o1; rw [List.length_map]; omega
  have l4 : ((g.ops.map Op.p).length : Int) ≤ 5 := by have := hg.o5; rw [List.length_map]; omega
  have n1 := w1.len
  have n2 := w2.len
  generalize ((g.ss.map S1).length : Int) = k1 at l1 l2 n1
  generalize ((g.ops.map Op.p).length : Int) = k2 at l3 l4 n2
  -- the checks
  have run : endS (denB cl gv B_Signature_dd__init_dd__2 [some (.ref m.length), some d1, some d2, none, none, none, none, none] M) = .ok (.p .non) (m.new (.ins 0 [(2, .p (.tup (g.ss.map S1))), (1, .p (.tup (g.ops.map Op.p))), (0, .p (.dct false (g.ops.map Op.kv)))])) := by
    have u2 : ∀ o, Vw (m.new o) d2 (g.ops.map Op.p) := fun o => v2.new o
    have t1 : bclS .tuple [d1] M = .ok (.p (.tup (g.ss.map S1))) M := w1.tuple
    have t2 : ∀ o, bclS .tuple [d2] (m.new o) = .ok (.p (.tup (g.ops.map Op.p))) (m.new o) := fun o => (u2 o).tuple
    have f1 : fsetS gv 2 (.ref m.length) (.p (.tup (g.ss.map S1))) M = .ok () (m.new (.ins 0 [(2, .p (.tup (g.ss.map S1)))])) := by
      rw [← hM]
      exact fset_new G.fk2 (by decide)
    have f2 : ∀ x y, fsetS gv 1 (.ref m.length) y (m.new (.ins 0 [(2, x)])) = .ok () (m.new (.ins 0 [(2, x), (1, y)])) := fun x y => fset_new G.fk1 (by simp)
    have f3 : ∀ x y z, fsetS gv 0 (.ref m.length) z (m.new (.ins 0 [(2, x), (1, y)])) = .ok () (m.new (.ins 0 [(2, x), (1, y), (0, z)])) := fun x y z => fset_new G.fk0 (by simp)
    have dc : ∀ o, den cl gv (.dcm false (.var 3) (.tup (.cons (.var 4) (.cons (.var 5) .nil))) (.tp (.cons (.nm 3) (.cons (.nm 4) (.cons (.nm 5) .nil)))) (.seq (.var 2)) .none [3, 4, 5]) [some (.ref m.length), some d1, some d2, none, none, none, none, none] (m.new o) = .ok (.p (.dct false (g.ops.map Op.kv))) (m.new o) := fun o => by
      obtain ⟨t, e1, e2, e3⟩ := (u2 o).seq
      rw [v_dcm]
      simp [e1]
      rw [e2, List.map_map]
      exact dc_ops e3 (acc := []) hg.od fun o' ho => by simp [Op.p, wipeD, pairS, Op.kv]
    simp [B_Signature_dd__init_dd__2, B_Signature_dd__init_dd__1, B_Signature_dd__init_dd__0, t1, t2, f1, f2, f3, dc]
  simp [B_Signature_dd__init_dd__12, B_Signature_dd__init_dd__10, B_Signature_dd__init_dd__8, B_Signature_dd__init_dd__6, B_Signature_dd__init_dd__4, b1, w1.cls, w2.cls, n1, n2, l1, l2, l3, l4, v_ccon G.cc0, v_ccon G.cc1, a1, a2, a3, b2, b3, all_f]
  rw [List.map_map] at b4
  simp [b4]
  rw [run, ← hM]
  exact trim_new rfl
theorem frz_new {m : Mem} {a b c : P} : frzS (.ref m.length) (m.new (.ins 0 [(2, .p a), (1, .p b), (0, .p c)])) = .ok (.p (.ins 0 [(2, a), (1, b), (0, c)])) (m ++ [none]) := by
  unfold frzS
  have e : frzN 5 (.ref m.length) (m.new (.ins 0 [(2, .p a), (1, .p b), (0, .p c)])) = some (.ins 0 [(2, a), (1, b), (0, c)], m ++ [none]) := by
    unfold frzN
    simp only [Mem.get_last, List.map_cons, List.map_nil]
    simp [frzL, frzN, Mem.get_last, Mem.kill_last]
  rw [e]
theorem sig_make (I : InitOk cl) (G : SigGv gv) {m : Mem} {l : RL} {δ : Sl} {d1 d2 : D} {g : Sg} (e : denL cl gv l δ m = .ok [d1, d2] m) (hg : g.ok) (v1 : Vw m d1 (g.ss.map S1)) (v2 : Vw m d2 (g.ops.map Op.p)) : den cl gv (.frz (.make 0 l)) δ m = .ok (.p g.p) m := by
  rw [v_frz, v_make G.ini, e]
  simp only [R.bind_ok]
  unfold makeS
  rw [I m d1 d2 g hg v1 v2]
  simp only [R.bind_ok]
  rw [frz_new]
  exact trim_app
end
theorem listed_ok {p : Pg} {k : Nat} (hf : p.fd 26 = some D_is_listed) : ListedOk (callAt p (k + 1)) := fun m d l h => by
  rw [callAt_ok hf]
  exact listed_1 h
theorem diff_ok {p : Pg} {k : Nat} (hf : p.fd 24 = some D_are_different) : DiffOk (callAt p (k + 1)) := fun m d l h h1 h2 => by
  rw [callAt_ok hf]
  exact diff_1 h h1 h2
theorem sorts_ok {p : Pg} {k : Nat} (hf : p.fd 28 = some D_are_sorts) : SortsOk (callAt p (k + 1)) := fun m d ss xs h h1 h2 => by
  rw [callAt_ok hf]
  exact sorts_1 h h1 h2
theorem op_ok {p : Pg} {k : Nat} (h1 : p.fd 1 = some D_is_name) (h28 : p.fd 28 = some D_are_sorts) (hf : p.fd 25 = some D_is_operation) (G : SigGv p.gv) : OpOk (callAt p (k + 2)) := fun m d ss o h a b => by
  rw [callAt_ok hf]
  exact op_1 (name_ok h1 G.c0 G.c1) (sorts_ok h28) G.c2 h a b
/-- the defs behind a signature's __init__ -/
structure InitPg (p : Pg) : Prop where
  f1 : p.fd 1 = some D_is_name
  f8 : p.fd 8 = some D_Signature_dd__init_dd_
  f24 : p.fd 24 = some D_are_different
  f25 : p.fd 25 = some D_is_operation
  f26 : p.fd 26 = some D_is_listed
  f28 : p.fd 28 = some D_are_sorts
  G : SigGv p.gv
theorem init_ok {p : Pg} {k : Nat} (H : InitPg p) : InitOk (callAt p (k + 3)) := fun m d1 d2 g h a b => by
  rw [callAt_ok H.f8]
  exact init_1 (name_ok H.f1 H.G.c0 H.G.c1) (listed_ok H.f26) (diff_ok H.f24) (op_ok H.f1 H.f28 H.f25 H.G) H.G h a b
end Dn
end

/-! Dn, part ZC: a signature's methods. -/
noncomputable section
namespace Dn
open PySem PySem.Spec PyProof.Rows L2
theorem dget_ops (n : Tx) : ∀ ops : List Op, dget false (ops.map Op.kv) (S1 n) = some ((ops.find? fun o => decide (o.nm = n)).map fun o => P.tup [.tup (o.ar.map S1), S1 o.rs])
  | [] => rfl
  | o :: ops => by
    have ih := dget_ops n ops
    have e : ∀ l : List (P × P), dget false l (S1 n) = some ((l.find? fun kv => decide (keyP kv.1 = some (.inr (mk n)))).map (·.2)) := fun l => rfl
    rw [e] at ih ⊢
    have ih := Option.some.inj ih
    congr 1
    rw [List.map_cons, List.find?_cons, List.find?_cons]
    have k : decide (keyP o.kv.1 = some (.inr (mk n))) = decide (o.nm = n) := by
      rw [Bool.eq_iff_iff, decide_eq_true_iff, decide_eq_true_iff]
      show ((some (Sum.inr (mk o.nm)) : Option Key) = some (.inr (mk n))) ↔ _
      rw [Option.some_inj]
      constructor
      · intro h
        injection h with h
        exact mk_inj.mp h
      · intro h
        rw [h]
    rw [k]
    cases decide (o.nm = n) with
    | true => rfl
    | false => exact ih
theorem find_op : ∀ {ops : List Op}, (ops.map Op.nm).Nodup → ∀ {o : Op}, o ∈ ops → ops.find? (fun x => decide (x.nm = o.nm)) = some o
  | [], _, o, h => by cases h
  | x :: ops, hn, o, h => by
    rw [List.map_cons, List.nodup_cons] at hn
    rw [List.find?_cons]
    rcases List.mem_cons.mp h with e | e
    · subst e
      simp
    · have : x.nm ≠ o.nm := fun z => hn.1 (List.mem_map.mpr ⟨o, e, z.symm⟩)
      rw [decide_eq_false this]
      exact find_op hn.2 e
theorem in_ops {ops : List Op} {n : Tx} {m : Mem} : cmpS .inn (.p (S1 n)) (.p (.dct false (ops.map Op.kv))) m = .ok (.p (.bl (decide (n ∈ ops.map Op.nm)))) m := by
  show oB ((dget false (ops.map Op.kv) (S1 n)).map (·.isSome)) m = _
  rw [dget_ops]
  show R.ok (D.p (.bl (((ops.find? fun o => decide (o.nm = n)).map fun o => P.tup [.tup (o.ar.map S1), S1 o.rs]).isSome))) m = _
  congr 3
  rw [Option.isSome_map, Bool.eq_iff_iff, List.find?_isSome]
  simp
theorem nin_ops {ops : List Op} {n : Tx} {m : Mem} : cmpS .nin (.p (S1 n)) (.p (.dct false (ops.map Op.kv))) m = .ok (.p (.bl (!decide (n ∈ ops.map Op.nm)))) m := by
  have h := in_ops (ops := ops) (n := n) (m := m)
  have h : oB (inP (S1 n) (.dct false (ops.map Op.kv))) m = _ := h
  show oB ((inP (S1 n) (.dct false (ops.map Op.kv))).map (!·)) m = _
  cases e : inP (S1 n) (.dct false (ops.map Op.kv)) with
  | none => rw [e] at h; cases h
  | some b =>
    rw [e] at h
    injection h with h
    injection h with h
    injection h with h
    subst h
    rfl
theorem ix_ops {ops : List Op} {o : Op} {m : Mem} (hn : (ops.map Op.nm).Nodup) (ho : o ∈ ops) : ixS (.p (.dct false (ops.map Op.kv))) (.p (S1 o.nm)) m = .ok (.p (.tup [.tup (o.ar.map S1), S1 o.rs])) m := by
  show (match dget false (ops.map Op.kv) (S1 o.nm) with | some (some x) => R.ok (D.p x) m | _ => .no) = _
  rw [dget_ops, find_op hn ho]
  rfl
def tS (i : Int) : Str := toString i
theorem len_app (a b : Str) : (a ++ b).length = a.length + b.length := by
  rw [mk_of a, mk_of b, mk_app]
  simp
theorem app_empty (a : Str) : Str.empty ++ a = a := by
  have : Str.empty = mk [] := rfl
  rw [this, mk_of a, mk_app]
  rfl
theorem tS_len : ∀ n : Nat, n < 10 → (tS n).length ≤ 9 := by decide +kernel
theorem log_small : ∀ n : Nat, n < 10 → (n : Int).natAbs.log2 < 1920 := by decide +kernel
theorem fmt_small {n : Nat} (h : n < 10) {m : Mem} : fmtS (.p (.int (n : Int))) m = .ok (.p (.str (tS n))) m := if_pos (log_small n h)
theorem str_small {n : Nat} (h : n < 10) {m : Mem} : bclS .str [.p (.int (n : Int))] m = .ok (.p (.str (tS n))) m := if_pos (log_small n h)
theorem add_str {a s : Str} (h : a.length + s.length ≤ 16777216) : addS a (.p (.str s)) = some (a ++ s) := if_pos (by rw [len_app]; exact line_le h)
theorem o_cats {a b : Str} {m : Mem} (h : a.length + b.length ≤ 16777216) : binS .add (.p (.str a)) (.p (.str b)) m = .ok (.p (.str (a ++ b))) m := if_pos (line_le h)
def reprS (a b : Nat) : Str := (((Str.ofString "Signature(" ++ tS a) ++ Str.ofString " sorts, ") ++ tS b) ++ Str.ofString " operations)"
theorem lit1 : (Str.ofString "Signature(").length = 10 := by decide +kernel
theorem lit2 : (Str.ofString " sorts, ").length = 8 := by decide +kernel
theorem lit3 : (Str.ofString " operations)").length = 12 := by decide +kernel
section
variable {cl : Cl} {gv : Gv} {m : Mem} {g : Sg}
theorem fl2 (G : SigGv gv) : fldS gv 2 (.p g.p) m = .ok (.p (.tup (g.ss.map S1))) m := by
  show (if gv.fk 0 2 = true then _ else _) = _
  rw [if_pos G.fk2]
theorem fl1 (G : SigGv gv) : fldS gv 1 (.p g.p) m = .ok (.p (.tup (g.ops.map Op.p))) m := by
  show (if gv.fk 0 1 = true then _ else _) = _
  rw [if_pos G.fk1]
theorem fl0 (G : SigGv gv) : fldS gv 0 (.p g.p) m = .ok (.p (.dct false (g.ops.map Op.kv))) m := by
  show (if gv.fk 0 0 = true then _ else _) = _
  rw [if_pos G.fk0]
@[simp] theorem cls_sg : clsS (.p g.p) m = some 0 := rfl
theorem ty_S {x : Tx} : isTys [.str] (.p (S1 x)) m = some true := ty_str_str
theorem cls_S {x : Tx} : clsS (.p (S1 x)) m = none := rfl
theorem ty_sg : isTys [.own 0] (.p g.p) m = some true := (ty_of (k := .inl 0) rfl _).trans (by decide)
end
def NeedOk (cl : Cl) : Prop := ∀ (m : Mem) (g : Sg) (o : Op), o ∈ g.ops → cl 27 [.p g.p, .p (S1 o.nm)] m = .ok (.p .non) m
structure MthC (cl : Cl) : Prop where
  len : ∀ (m : Mem) (g : Sg), g.ok → cl 9 [.p g.p] m = .ok (.p (.int g.ops.length)) m
  rep : ∀ (m : Mem) (g : Sg), g.ok → cl 10 [.p g.p] m = .ok (.p (.str (reprS g.ss.length g.ops.length))) m
  con : ∀ (m : Mem) (g : Sg) (x : Tx), cl 11 [.p g.p, .p (S1 x)] m = .ok (.p (.bl (decide (x ∈ g.ops.map Op.nm)))) m
  conN : ∀ (m : Mem) (g : Sg) (x : P), isTys [.str] (.p x) m = some false → cl 11 [.p g.p, .p x] m = .ok (.p (.bl false)) m
  eq : ∀ (m : Mem) (g g' : Sg), g.ok → g'.ok → cl 12 [.p g.p, .p g'.p] m = .ok (.p (.bl (decide (g = g')))) m
  eqN : ∀ (m : Mem) (g : Sg) (x : P), isTys [.own 0] (.p x) m = some false → cl 12 [.p g.p, .p x] m = .ok (.p (.bl false)) m
def ResOk (cl : Cl) : Prop := ∀ (m : Mem) (g : Sg) (o : Op), g.ok → o ∈ g.ops → cl 15 [.p g.p, .p (S1 o.nm)] m = .ok (.p (S1 o.rs)) m
def ArgOk (cl : Cl) : Prop := ∀ (m : Mem) (g : Sg) (o : Op), g.ok → o ∈ g.ops → cl 16 [.p g.p, .p (S1 o.nm)] m = .ok (.p (.tup (o.ar.map S1))) m
def NmsOk (cl : Cl) : Prop := ∀ (m : Mem) (g : Sg), cl 17 [.p g.p] m = .ok (.p (.lst ((g.ops.map Op.nm).map S1))) m
def OpsOk (cl : Cl) : Prop := ∀ (m : Mem) (g : Sg), cl 18 [.p g.p] m = .ok (.p (.lst (g.ops.map Op.p))) m
def SrtOk (cl : Cl) : Prop := ∀ (m : Mem) (g : Sg), cl 19 [.p g.p] m = .ok (.p (.lst (g.ss.map S1))) m
def NmsMOk (cl : Cl) : Prop := ∀ (m : Mem) (g : Sg), cl 20 [.p g.p] m = .ok (.ref m.length) (m.new (.lst (((g.ops.map Op.nm).map S1).map D.p)))
def OpsMOk (cl : Cl) : Prop := ∀ (m : Mem) (g : Sg), cl 21 [.p g.p] m = .ok (.ref m.length) (m.new (.lst ((g.ops.map Op.p).map D.p)))
def SrtMOk (cl : Cl) : Prop := ∀ (m : Mem) (g : Sg), cl 22 [.p g.p] m = .ok (.ref m.length) (m.new (.lst ((g.ss.map S1).map D.p)))
section
variable {cl : Cl} {gv : Gv} {m : Mem} {g : Sg}
theorem need_1 (G : SigGv gv) {o : Op} (ho : o ∈ g.ops) : runD cl gv D_Signature_need [.p g.p, .p (S1 o.nm)] m = .ok (.p .non) m := by
  unfold D_Signature_need
  rw [runD_ok (np := 2) rfl]
  have : o.nm ∈ g.ops.map Op.nm := List.mem_map.mpr ⟨o, ho, rfl⟩
  have e := nin_ops (ops := g.ops) (n := o.nm) (m := m)
  rw [decide_eq_true this] at e
  simp [B_Signature_need_1, ty_S, fl0 G, e]
theorem len_1 (G : SigGv gv) : runD cl gv D_Signature_dd__len_dd_ [.p g.p] m = .ok (.p (.int g.ops.length)) m := by
  unfold D_Signature_dd__len_dd_
  rw [runD_ok (np := 1) rfl]
  simp [B_Signature_dd__len_dd__0, fl1 G]
theorem rep_1 (G : SigGv gv) (hg : g.ok) : runD cl gv D_Signature_dd__repr_dd_ [.p g.p] m = .ok (.p (.str (reprS g.ss.length g.ops.length))) m := by
  unfold D_Signature_dd__repr_dd_
  rw [runD_ok (np := 1) rfl]
  have h1 : g.ss.length < 10 := by have := hg.s3; omega
  have h2 : g.ops.length < 10 := by have := hg.o5; omega
  have z1 := tS_len _ h1
  have z2 := tS_len _ h2
  simp [B_Signature_dd__repr_dd__0, fl1 G, fl2 G, j_cons, fmt_small h1, fmt_small h2]
  rw [add_str (by rw [lit1]; decide)]
  simp only [app_empty]
  rw [add_str (by rw [lit1]; omega)]
  simp only
  rw [add_str (by rw [len_app, lit1, lit2]; omega)]
  simp only
  rw [add_str (by rw [len_app, len_app, lit1, lit2]; omega)]
  simp only
  rw [add_str (by rw [len_app, len_app, len_app, lit1, lit2, lit3]; omega)]
  simp [reprS]
theorem con_1 (G : SigGv gv) {x : Tx} : runD cl gv D_Signature_dd__contains_dd_ [.p g.p, .p (S1 x)] m = .ok (.p (.bl (decide (x ∈ g.ops.map Op.nm)))) m := by
  unfold D_Signature_dd__contains_dd_
  rw [runD_ok (np := 2) rfl]
  simp [B_Signature_dd__contains_dd__0, ty_S, fl0 G, in_ops, -List.mem_map]
theorem conN_1 {x : P} (h : isTys [.str] (.p x) m = some false) : runD cl gv D_Signature_dd__contains_dd_ [.p g.p, .p x] m = .ok (.p (.bl false)) m := by
  unfold D_Signature_dd__contains_dd_
  rw [runD_ok (np := 2) rfl]
  simp [B_Signature_dd__contains_dd__0, h]
theorem eqN_1 {x : P} (h : isTys [.own 0] (.p x) m = some false) : runD cl gv D_Signature_dd__eq_dd_ [.p g.p, .p x] m = .ok (.p (.bl false)) m := by
  unfold D_Signature_dd__eq_dd_
  rw [runD_ok (np := 2) rfl]
  simp [B_Signature_dd__eq_dd__2, B_Signature_dd__eq_dd__1, h]
theorem eq_1 (G : SigGv gv) {g' : Sg} (hg : g.ok) (hg' : g'.ok) : runD cl gv D_Signature_dd__eq_dd_ [.p g.p, .p g'.p] m = .ok (.p (.bl (decide (g = g')))) m := by
  unfold D_Signature_dd__eq_dd_
  rw [runD_ok (np := 2) rfl]
  have e1 := k_eqTT (m := m) hg.smS hg'.smS
  have e2 := k_eqPP (m := m) hg.smO hg'.smO
  have q : g = g' ↔ g.ss = g'.ss ∧ g.ops = g'.ops := by
    obtain ⟨a, b⟩ := g
    obtain ⟨a', b'⟩ := g'
    simp
  by_cases c : g.ss = g'.ss
  · rw [decide_eq_true c] at e1
    simp [B_Signature_dd__eq_dd__2, B_Signature_dd__eq_dd__0, ty_sg, fl2 G, fl1 G, e1, e2, q]
    simp [c]
  · rw [decide_eq_false c] at e1
    simp [B_Signature_dd__eq_dd__2, B_Signature_dd__eq_dd__0, ty_sg, fl2 G, fl1 G, e1, e2, q]
    simp [c]
theorem res_1 (N : NeedOk cl) (G : SigGv gv) (m8 : gv.mt 0 8 = some 27) (hg : g.ok) {o : Op} (ho : o ∈ g.ops) : runD cl gv D_Signature_result [.p g.p, .p (S1 o.nm)] m = .ok (.p (S1 o.rs)) m := by
  unfold D_Signature_result
  rw [runD_ok (np := 2) rfl]
  simp [B_Signature_result_1, B_Signature_result_0, v_meth, m8, N m g o ho, trimU_self, fl0 G, ix_ops hg.od ho]
theorem arg_1 (N : NeedOk cl) (G : SigGv gv) (m8 : gv.mt 0 8 = some 27) (hg : g.ok) {o : Op} (ho : o ∈ g.ops) : runD cl gv D_Signature_arguments [.p g.p, .p (S1 o.nm)] m = .ok (.p (.tup (o.ar.map S1))) m := by
  unfold D_Signature_arguments
  rw [runD_ok (np := 2) rfl]
  simp [B_Signature_arguments_1, B_Signature_arguments_0, v_meth, m8, N m g o ho, trimU_self, fl0 G, ix_ops hg.od ho]
theorem kv_nm (ops : List Op) : (ops.map Op.kv).map (fun kv => D.p kv.1) = ((ops.map Op.nm).map S1).map D.p := by simp [Op.kv, Function.comp_def]
theorem list_d {l : List (P × P)} : bclS .list [.p (.dct false l)] m = .ok (.p (.lst (l.map (·.1)))) m := by
  show mkL false (l.map fun kv => .p kv.1) m = _
  have : (l.map fun kv => D.p kv.1) = (l.map (·.1)).map D.p := by simp [Function.comp_def]
  rw [this]
  exact mkL_p
theorem nms_1 (G : SigGv gv) : runD cl gv D_Signature_names [.p g.p] m = .ok (.p (.lst ((g.ops.map Op.nm).map S1))) m := by
  unfold D_Signature_names
  rw [runD_ok (np := 1) rfl]
  simp [B_Signature_names_0, fl0 G, list_d, Function.comp_def, Op.kv]
theorem ops_1 (G : SigGv gv) : runD cl gv D_Signature_operations [.p g.p] m = .ok (.p (.lst (g.ops.map Op.p))) m := by
  unfold D_Signature_operations
  rw [runD_ok (np := 1) rfl]
  simp [B_Signature_operations_0, fl1 G]
theorem srt_1 (G : SigGv gv) : runD cl gv D_Signature_sorts [.p g.p] m = .ok (.p (.lst (g.ss.map S1))) m := by
  unfold D_Signature_sorts
  rw [runD_ok (np := 1) rfl]
  simp [B_Signature_sorts_0, fl2 G]
theorem nmsM_1 (G : SigGv gv) : runD cl gv D_Signature_namesM [.p g.p] m = .ok (.ref m.length) (m.new (.lst (((g.ops.map Op.nm).map S1).map D.p))) := by
  unfold D_Signature_namesM
  rw [runD_ok (np := 1) rfl]
  simp [B_Signature_namesM_0, fl0 G, Function.comp_def, Op.kv]
theorem opsM_1 (G : SigGv gv) : runD cl gv D_Signature_operationsM [.p g.p] m = .ok (.ref m.length) (m.new (.lst ((g.ops.map Op.p).map D.p))) := by
  unfold D_Signature_operationsM
  rw [runD_ok (np := 1) rfl]
  simp [B_Signature_operationsM_0, fl1 G]
theorem srtM_1 (G : SigGv gv) : runD cl gv D_Signature_sortsM [.p g.p] m = .ok (.ref m.length) (m.new (.lst ((g.ss.map S1).map D.p))) := by
  unfold D_Signature_sortsM
  rw [runD_ok (np := 1) rfl]
  simp [B_Signature_sortsM_0, fl2 G]
end
structure MthPg (p : Pg) : Prop where
  f9 : p.fd 9 = some D_Signature_dd__len_dd_
  f10 : p.fd 10 = some D_Signature_dd__repr_dd_
  f11 : p.fd 11 = some D_Signature_dd__contains_dd_
  f12 : p.fd 12 = some D_Signature_dd__eq_dd_
theorem mth_ok {p : Pg} {k : Nat} (M : MthPg p) (G : SigGv p.gv) : MthC (callAt p (k + 1)) where
  len m g h := by rw [callAt_ok M.f9]; exact len_1 G
  rep m g h := by rw [callAt_ok M.f10]; exact rep_1 G h
  con m g x := by rw [callAt_ok M.f11]; exact con_1 G
  conN m g x h := by rw [callAt_ok M.f11]; exact conN_1 h
  eq m g g' h h' := by rw [callAt_ok M.f12]; exact eq_1 G h h'
  eqN m g x h := by rw [callAt_ok M.f12]; exact eqN_1 h
section
variable {p : Pg} {k : Nat}
theorem need_ok (f : p.fd 27 = some D_Signature_need) (G : SigGv p.gv) : NeedOk (callAt p (k + 1)) := fun m g o h => by
  rw [callAt_ok f]; exact need_1 G h
theorem res_ok (f : p.fd 15 = some D_Signature_result) (f27 : p.fd 27 = some D_Signature_need) (G : SigGv p.gv) (m8 : p.gv.mt 0 8 = some 27) : ResOk (callAt p (k + 2)) := fun m g o h ho => by
  rw [callAt_ok f]; exact res_1 (need_ok f27 G) G m8 h ho
theorem arg_ok (f : p.fd 16 = some D_Signature_arguments) (f27 : p.fd 27 = some D_Signature_need) (G : SigGv p.gv) (m8 : p.gv.mt 0 8 = some 27) : ArgOk (callAt p (k + 2)) := fun m g o h ho => by
  rw [callAt_ok f]; exact arg_1 (need_ok f27 G) G m8 h ho
theorem nms_ok (f : p.fd 17 = some D_Signature_names) (G : SigGv p.gv) : NmsOk (callAt p (k + 1)) := fun m g => by
  rw [callAt_ok f]; exact nms_1 G
theorem ops_ok (f : p.fd 18 = some D_Signature_operations) (G : SigGv p.gv) : OpsOk (callAt p (k + 1)) := fun m g => by
  rw [callAt_ok f]; exact ops_1 G
theorem srt_ok (f : p.fd 19 = some D_Signature_sorts) (G : SigGv p.gv) : SrtOk (callAt p (k + 1)) := fun m g => by
  rw [callAt_ok f]; exact srt_1 G
theorem nmsM_ok (f : p.fd 20 = some D_Signature_namesM) (G : SigGv p.gv) : NmsMOk (callAt p (k + 1)) := fun m g => by
  rw [callAt_ok f]; exact nmsM_1 G
theorem opsM_ok (f : p.fd 21 = some D_Signature_operationsM) (G : SigGv p.gv) : OpsMOk (callAt p (k + 1)) := fun m g => by
  rw [callAt_ok f]; exact opsM_1 G
theorem srtM_ok (f : p.fd 22 = some D_Signature_sortsM) (G : SigGv p.gv) : SrtMOk (callAt p (k + 1)) := fun m g => by
  rw [callAt_ok f]; exact srtM_1 G
end
end Dn
end

/-! Dn, part ZD: drawn signatures. -/
noncomputable section
namespace Dn
open PySem PySem.Spec PyProof.Rows L2
theorem Tame.trans {a b c : Mem} (h : Tame a b) (k : Tame b c) : Tame a c := by
  refine ⟨Nat.le_trans h.1 k.1, fun n hn => ?_⟩
  rcases k.2 n (Nat.lt_of_lt_of_le hn h.1) with e | e
  · rw [e]
    exact h.2 n hn
  · exact .inr e
theorem tame_put1 {m : Mem} {r : Nat} {o : MO} (h : o.flat = true) : Tame m (m.put r o) := by
  have t := tame_put (m := m) (l := []) (r := r) h
  rwa [List.append_nil] at t
theorem trim_same {m m' : Mem} {x : P} (h : Tame m m') (e : m'.length = m.length) : trimR m (.ok (.p x) m') = .ok (.p x) m' := by
  rw [trim_tame h, ← e, List.take_length]
theorem trimU_same {m m' : Mem} {d : D} (h : Tame m m') (e : m'.length = m.length) : trimU m (.ok d m') = .ok (.p .non) m' := by
  rw [trimU_tame h, ← e, List.take_length]
theorem tame_kill {m : Mem} {r : Nat} : Tame m (m.kill r) := by
  refine ⟨by simp [Mem.kill], fun n hn => ?_⟩
  by_cases c : n = r
  · subst c
    right
    refine ⟨none, ?_, fun q e => by cases e⟩
    unfold Mem.kill
    rw [List.getElem?_set_self hn]
  · left
    unfold Mem.kill
    rw [List.getElem?_set_ne (Ne.symm c)]
theorem Mem.len_kill {m : Mem} {r : Nat} : (m.kill r).length = m.length := by simp [Mem.kill]
theorem Mem.put_new {m : Mem} {r : Nat} {o u : MO} (h : r < m.length) : (m.new u).put r o = (m.put r o).new u := by
  unfold Mem.put Mem.new
  rw [List.set_append_left _ _ h]
/-- the bag at r, a list at the store's end -/
def MM (m : Mem) (r : Nat) (o : MO) (l : List D) : Mem := (m.put r o).new (.lst l)
section
variable {m : Mem} {r : Nat} {o o' : MO} {l l' : List D}
theorem MM.lt {u : MO} (h : m.get r = some u) : r < m.length := (List.getElem?_eq_some_iff.mp (get_some h)).1
theorem MM.getr {u : MO} (h : m.get r = some u) : (MM m r o l).get r = some o := Mem.get_new (Mem.get_put h)
theorem MM.geta : (MM m r o l).get m.length = some (.lst l) := by
  have := Mem.get_last (m := m.put r o) (o := .lst l)
  rwa [Mem.len_put] at this
theorem MM.putr {u : MO} (h : m.get r = some u) : (MM m r o l).put r o' = MM m r o' l := by
  unfold MM
  rw [Mem.put_new (by rw [Mem.len_put]; exact MM.lt h), Mem.put_put]
theorem MM.puta : (MM m r o l).put m.length (.lst l') = MM m r o l' := by
  have := Mem.put_last (m := m.put r o) (o := .lst l) (u := .lst l')
  rwa [Mem.len_put] at this
theorem MM.killa : (MM m r o l).kill m.length = m.put r o ++ [none] := by
  have := Mem.kill_last (m := m.put r o) (o := .lst l)
  rwa [Mem.len_put] at this
theorem MM.len : (MM m r o l).length = m.length + 1 := by simp [MM, Mem.new, Mem.put]
end
theorem frzL_p {k : Nat} {m : Mem} : ∀ l : List P, frzL (frzN k) (l.map D.p) m = some (l, m)
  | [] => rfl
  | x :: l => by
    rw [List.map_cons]
    unfold frzL
    have : frzN k (.p x) m = some (x, m) := by cases k <;> rfl
    rw [this]
    simp only [frzL_p l]
theorem frz_lst {m : Mem} {n : Nat} {l : List P} (h : m.get n = some (.lst (l.map D.p))) : trimR m (frzS (.ref n) m) = .ok (.p (.lst l)) (m.kill n) := by
  have e : frzS (.ref n) m = .ok (.p (.lst l)) (m.kill n) := by
    unfold frzS frzN
    simp [h, frzL_p]
  rw [e]
  exact trim_same tame_kill Mem.len_kill
theorem wordAt_inj {stem : List Nat} {a f i j : Nat} (hi : i < 26) (hj : j < 26) (h : wordAt stem a f i = wordAt stem a f j) : i = j := by
  unfold wordAt at h
  have h := List.append_cancel_left h
  have h := List.append_cancel_right h
  injection h with h
  omega
theorem words_nodup {stem : List Nat} {a f n : Nat} (hn : n ≤ 26) : ((List.range n).map (wordAt stem a f)).Nodup := by
  rw [List.Nodup, List.pairwise_map]
  refine List.Pairwise.imp_of_mem (R := (· ≠ ·)) (fun {x y} hx hy hne e => ?_) List.nodup_range
  have := List.mem_range.mp hx
  have := List.mem_range.mp hy
  exact hne (wordAt_inj (by omega) (by omega) e)
def OfSs (cl : Cl) : Prop := ∀ (m : Mem) (r : Nat) (o : MO) (ss : List Tx), m.get r = some o → BagO o → ss ≠ [] → ss.length < 1073741824 → ∃ x o', cl 4 [.ref r, .p (.lst (ss.map S1))] m = .ok (.p (S1 x)) (m.put r o') ∧ BagO o' ∧ x ∈ ss
theorem OfL.ss {cl : Cl} (H : OfL cl) : OfSs cl := fun m r o ss h hb h1 h2 => by
  obtain ⟨x, o', e, b, hx⟩ := H m r o (ss.map S1) h hb (by simpa using h1) (by simpa using h2)
  obtain ⟨s, hs, rfl⟩ := List.mem_map.mp hx
  exact ⟨s, o', e, b, hs⟩
theorem each_ss {S : List Tx} : ∀ {l ys : List D}, Each (fun _ y => ∃ x ∈ S, y = .p (S1 x)) l ys → ∃ xs : List Tx, ys = (xs.map S1).map D.p ∧ xs.length = l.length ∧ ∀ x ∈ xs, x ∈ S
  | _, _, .nil => ⟨[], rfl, rfl, fun _ h => by cases h⟩
  | _, _, .cons ⟨c, hc, e⟩ t => by
    obtain ⟨cs, e1, e2, e3⟩ := each_ss t
    refine ⟨c :: cs, by rw [e, e1]; rfl, congrArg Nat.succ e2, fun z hz => ?_⟩
    rcases List.mem_cons.mp hz with h | h
    · rw [h]; exact hc
    · exact e3 z h
def AnySig (cl : Cl) : Prop := ∀ (m : Mem) (r : Nat) (o : MO), m.get r = some o → BagO o → ∃ (g : Sg) (o' : MO), g.ok ∧ BagO o' ∧ cl 23 [.ref r] m = .ok (.p (.lst [.lst (g.ss.map S1), .lst (g.ops.map Op.p)])) (m.put r o')
section
variable {cl : Cl} {gv : Gv}
/-- one turn: an operation is drawn -/
theorem any_turn (P1 : PullOk cl) (O1 : OfSs cl) {m : Mem} {r : Nat} {u o : MO} (h : m.get r = some u) (hb : BagO o) {ss : List Tx} (h1 : ss ≠ []) (h2 : ss.length ≤ 3) {w : Tx} (hw : IsNm w) {l : List D} (hl : l.length < 16777216) (hf : l.all D.flat = true) (x4 x5 x6 : Option D) :
    ∃ (q : Op) (o' : MO) (x5' : Option D), BagO o' ∧ q.nm = w ∧ q.ok ss ∧ denB cl gv B__law_any_sig_2 [some (.ref r), some (.ref m.length), some (.p (S1 w)), some (.p (.lst (ss.map S1))), x4, x5, x6] (MM m r o l) = .ok .nx [some (.ref r), some (.ref m.length), some (.p (S1 w)), some (.p (.lst (ss.map S1))), x4, x5', x6] (MM m r o' (l ++ [.p q.p])) := by
  obtain ⟨j, o1, e1, b1, u1⟩ := P1.nat (m := MM m r o l) (MM.getr h) hb 4 (by decide) (by decide)
  rw [MM.putr h] at e1
  have e1 : cl 3 [.ref r, .p (.int 4)] (MM m r o l) = .ok (.p (.int (j : Int))) (MM m r o1 l) := e1
  have hl1 := lc_each (f := turn (denC cl gv .none) (den cl gv (.call 4 (.cons (.var 0) (.cons (.var 3) .nil)))) (.nm 6) (wipeD [some (.ref r), some (.ref m.length), some (.p (S1 w)), some (.p (.lst (ss.map S1))), x4, x5, x6] [6])) (t := ⟨(List.range j).map fun (k : Nat) => .p (.int (k : Int)), none⟩) rfl
    (I := fun m' => ∃ o', m' = MM m r o' l ∧ BagO o') (Q := fun _ y => ∃ x ∈ ss, y = .p (S1 x)) (l := (List.range j).map fun (k : Nat) => .p (.int (k : Int)))
    (fun x _ m' ⟨o2, em, b2⟩ => by
      subst em
      obtain ⟨c, o3, e3, b3, hc⟩ := O1 (MM m r o2 l) r o2 ss (MM.getr h) b2 h1 (by omega)
      rw [MM.putr h] at e3
      refine ⟨.p (S1 c), MM m r o3 l, ?_, ⟨c, hc, rfl⟩, o3, rfl, b3⟩
      simp [turn_, wipeD, e3]) (MM m r o1 l) ⟨o1, rfl, b1⟩
  obtain ⟨ys, m2, e2, q2, o2, rfl, b2⟩ := hl1
  obtain ⟨xs, rfl, lx, hx⟩ := each_ss q2
  rw [List.length_map, List.length_range] at lx
  obtain ⟨c, o3, e3, b3, hc⟩ := O1 (MM m r o2 l) r o2 ss (MM.getr h) b2 h1 (by omega)
  rw [MM.putr h] at e3
  refine ⟨⟨w, xs, c⟩, o3, some (.p (.tup (xs.map S1))), b3, rfl, ⟨hw, by show xs.length ≤ 3; omega, hx, hc⟩, ?_⟩
  have s1 : den cl gv (.lc false (.call 4 (.cons (.var 0) (.cons (.var 3) .nil))) (.nm 6) (.rng (.call 3 (.cons (.var 0) (.cons (.cst (.int 4)) .nil)))) .none [6]) [some (.ref r), some (.ref m.length), some (.p (S1 w)), some (.p (.lst (ss.map S1))), x4, x5, x6] (MM m r o l) = .ok (.p (.lst (xs.map S1))) (MM m r o2 l) := by
    rw [v_lc]
    simp [e1, rng_ (show j ≤ 16777216 by omega)]
    rw [e2]
    exact mkL_p
  have pre : ∀ o, bmPre .append (.ref m.length) (MM m r o l) = true := fun o => by
    unfold bmPre
    simp only [MM.geta]
    rfl
  have ap : bmtS .append (.ref m.length) [.p (.tup [S1 w, .tup (xs.map S1), S1 c])] (MM m r o3 l) = .ok (.p .non) (MM m r o3 (l ++ [.p (Op.p ⟨w, xs, c⟩)])) := by
    unfold bmtS appendS
    simp only [MM.geta]
    rw [if_pos (by rw [PySem.sizeLine_eq]; exact hl), MM.puta]
    rfl
  have tm : trimU (MM m r o2 l) (.ok (.p .non) (MM m r o3 (l ++ [.p (Op.p ⟨w, xs, c⟩)]))) = .ok (.p .non) (MM m r o3 (l ++ [.p (Op.p ⟨w, xs, c⟩)])) := by
    refine trimU_same (Tame.trans (b := MM m r o3 l) ?_ ?_) (by rw [MM.len, MM.len])
    · have := tame_put1 (m := MM m r o2 l) (r := r) (bag_flat b3)
      rwa [MM.putr h] at this
    · have := tame_put1 (m := MM m r o3 l) (r := m.length) (o := .lst (l ++ [.p (Op.p ⟨w, xs, c⟩)])) (by
        show (l ++ [D.p (Op.p ⟨w, xs, c⟩)]).all D.flat = true
        rw [List.all_append, hf]
        rfl)
      rwa [MM.puta] at this
  simp [B__law_any_sig_2, B__law_any_sig_1, s1, pre, e3, ap, tm]
theorem any_loop (P1 : PullOk cl) (O1 : OfSs cl) {m : Mem} {r : Nat} {u : MO} (h : m.get r = some u) {ss : List Tx} (h1 : ss ≠ []) (h2 : ss.length ≤ 3) {t : Its} (ht : t.n = none) {x4 x6 : Option D} : ∀ (ws : List Tx), (∀ w ∈ ws, IsNm w) → ∀ (l : List D) (o : MO) (x2 x5 : Option D), BagO o → l.all D.flat = true → l.length + ws.length < 16777216 →
    ∃ (ops : List Op) (o' : MO) (x2' x5' : Option D), BagO o' ∧ ops.map Op.nm = ws ∧ (∀ q ∈ ops, q.ok ss) ∧
      forRun (fun x δ m => denB cl gv B__law_any_sig_2 (List.set δ 2 (some x)) m) t (ws.map fun w => .p (S1 w)) [some (.ref r), some (.ref m.length), x2, some (.p (.lst (ss.map S1))), x4, x5, x6] (MM m r o l) = .ok .nx [some (.ref r), some (.ref m.length), x2', some (.p (.lst (ss.map S1))), x4, x5', x6] (MM m r o' (l ++ ops.map fun q => .p q.p))
  | [], _, l, o, x2, x5, hb, hf, hl => by
    refine ⟨[], o, x2, x5, hb, rfl, (fun _ h => by cases h), ?_⟩
    rw [List.map_nil]
    unfold forRun
    rw [if_pos (by unfold Its.held; rw [ht]; trivial)]
    simp
  | w :: ws, hw, l, o, x2, x5, hb, hf, hl => by
    have hl' : l.length + (ws.length + 1) < 16777216 := hl
    obtain ⟨q, o1, x51, b1, n1, k1, e1⟩ := any_turn (gv := gv) P1 O1 h hb h1 h2 (hw w List.mem_cons_self) (l := l) (by omega) hf x4 x5 x6
    obtain ⟨ops, o2, x22, x52, b2, n2, k2, e2⟩ := any_loop P1 O1 h h1 h2 ht (x4 := x4) (x6 := x6) ws (fun w hw' => hw w (List.mem_cons_of_mem _ hw')) (l ++ [.p q.p]) o1 (some (.p (S1 w))) x51 b1 (by rw [List.all_append, hf]; rfl) (by rw [List.length_append]; show l.length + 1 + ws.length < _; omega)
    refine ⟨q :: ops, o2, x22, x52, b2, by rw [List.map_cons, n1, n2], fun z hz => ?_, ?_⟩
    · rcases List.mem_cons.mp hz with e | e
      · exact e ▸ k1
      · exact k2 z e
    · rw [List.map_cons]
      unfold forRun
      rw [if_pos (by unfold Its.held; rw [ht]; trivial)]
      simp only [List.set_cons_succ, List.set_cons_zero, e1]
      rw [e2]
      simp
theorem any_1 (P1 : PullOk cl) (O1 : OfSs cl) (W1 : WordsOk cl) {m : Mem} {r : Nat} {o : MO} (h : m.get r = some o) (hb : BagO o) :
    ∃ (g : Sg) (o' : MO), g.ok ∧ BagO o' ∧ runD cl gv D__law_any_sig [.ref r] m = .ok (.p (.lst [.lst (g.ss.map S1), .lst (g.ops.map Op.p)])) (m.put r o') := by
  obtain ⟨j1, o1, e1, b1, u1⟩ := P1.nat h hb 3 (by decide) (by decide)
  obtain ⟨st1, a1, f1, o2, e2, b2, s11, s12, s13, s14⟩ := W1 (m.put r o1) r o1 (1 + j1) (Mem.get_put h) b1 (by omega)
  rw [Mem.put_put] at e2
  obtain ⟨j2, o3, e3, b3, u3⟩ := P1.nat (m := m.put r o2) (Mem.get_put h) b2 5 (by decide) (by decide)
  rw [Mem.put_put] at e3
  obtain ⟨st2, a2, f2, o4, e4, b4, s21, s22, s23, s24⟩ := W1 (m.put r o3) r o3 (1 + j2) (Mem.get_put h) b3 (by omega)
  rw [Mem.put_put] at e4
  have e1 : cl 3 [.ref r, .p (.int 3)] m = .ok (.p (.int (j1 : Int))) (m.put r o1) := e1
  have e3 : cl 3 [.ref r, .p (.int 5)] (m.put r o2) = .ok (.p (.int (j2 : Int))) (m.put r o3) := e3
  have k : ∀ (st : List Nat) (a f n : Nat), (List.range n).map (wordP st a f) = ((List.range n).map (wordAt st a f)).map S1 := fun st a f n => by
    rw [List.map_map]; rfl
  rw [k] at e2 e4
  rw [Int.natCast_add] at e2 e4
  have e2 : cl 6 [.ref r, .p (.int (1 + (j1 : Int)))] (m.put r o1) = _ := e2
  have e4 : cl 6 [.ref r, .p (.int (1 + (j2 : Int)))] (m.put r o3) = _ := e4
  have hs : ∀ s ∈ (List.range (1 + j1)).map (wordAt st1 a1 f1), IsNm s := fun s hs => by
    obtain ⟨i, _, rfl⟩ := List.mem_map.mp hs
    exact wordAt_nm s11 s12 s13
  have hw : ∀ s ∈ (List.range (1 + j2)).map (wordAt st2 a2 f2), IsNm s := fun s hs => by
    obtain ⟨i, _, rfl⟩ := List.mem_map.mp hs
    exact wordAt_nm s21 s22 s23
  have nd1 := words_nodup (stem := st1) (a := a1) (f := f1) (n := 1 + j1) (by omega)
  have nd2 := words_nodup (stem := st2) (a := a2) (f := f2) (n := 1 + j2) (by omega)
  have ln1 : ((List.range (1 + j1)).map (wordAt st1 a1 f1)).length = 1 + j1 := by simp
  have ln2 : ((List.range (1 + j2)).map (wordAt st2 a2 f2)).length = 1 + j2 := by simp
  generalize (List.range (1 + j1)).map (wordAt st1 a1 f1) = ss at *
  generalize (List.range (1 + j2)).map (wordAt st2 a2 f2) = ws at *
  obtain ⟨ops, o5, x2, x5, b5, n5, k5, e5⟩ := any_loop (gv := gv) P1 O1 h (ss := ss) (by intro z; rw [z] at ln1; simp at ln1; omega) (by omega) (t := ⟨ws.map fun w => .p (S1 w), none⟩) rfl (x4 := some (.p (.lst (ws.map S1)))) (x6 := none) ws hw [] o4 none none b4 rfl (by rw [ln2]; show 0 + (1 + j2) < _; omega)
  have ln3 : ops.length = ws.length := by rw [← n5, List.length_map]
  refine ⟨⟨ss, ops⟩, o5, ⟨by show 1 ≤ ss.length; omega, by show ss.length ≤ 3; omega, hs, nd1, by show 1 ≤ ops.length; omega, by show ops.length ≤ 5; omega, k5, by show (ops.map Op.nm).Nodup; rw [n5]; exact nd2⟩, b5, ?_⟩
  unfold D__law_any_sig
  rw [runD_ok (np := 1) rfl]
  have nw : (m.put r o4).new (.lst []) = MM m r o4 [] := rfl
  have fz := frz_lst (m := MM m r o5 (ops.map fun q => .p q.p)) (n := m.length) (l := ops.map Op.p) (by rw [MM.geta, List.map_map]; rfl)
  rw [MM.killa] at fz
  rw [List.nil_append] at e5
  simp [B__law_any_sig_5, B__law_any_sig_4, e1, e2, e3, e4, Mem.len_put, nw]
  rw [B__law_any_sig_3]
  simp [s_for', Function.comp_def, e5, B__law_any_sig_0, fz]
  exact trim_put_app (bag_flat b5)
theorem sigl_1 (I : InitOk cl) (G : SigGv gv) {m : Mem} {g : Sg} (hg : g.ok) : runD cl gv D__law_sig [.p (.lst [.lst (g.ss.map S1), .lst (g.ops.map Op.p)])] m = .ok (.p g.p) m := by
  unfold D__law_sig
  rw [runD_ok (np := 1) rfl]
  have := sig_make (cl := cl) (l := .cons (.bcl .list (.cons (.ix (.var 0) (.cst (.int 0))) .nil)) (.cons (.bcl .list (.cons (.ix (.var 0) (.cst (.int 1))) .nil)) .nil)) (δ := [some (.p (.lst [.lst (g.ss.map S1), .lst (g.ops.map Op.p)]))]) I G (m := m) (by simp) hg (.l _) (.l _)
  simp [B__law_sig_0, this, -v_frz]
end
theorem slP_to {m : Mem} {l : List P} {k : Nat} : slS (.p (.lst l)) none (some (k : Int)) m = .ok (.p (.lst (l.take k))) m := by
  show R.ok (D.p (.lst (cutD l _ _))) m = _
  rw [cut_take]
theorem slP_from {m : Mem} {l : List P} {k : Nat} : slS (.p (.lst l)) (some (k : Int)) none m = .ok (.p (.lst (l.drop k))) m := by
  show R.ok (D.p (.lst (cutD l _ _))) m = _
  rw [cut_drop]
theorem cmp_ne {cl : Cl} {gv : Gv} (G : SigGv gv) (M : MthC cl) {m : Mem} {g g' : Sg} (hg : g.ok) (hg' : g'.ok) : cmpO cl gv .ne (.p g.p) (.p g'.p) m = .ok (.p (.bl (!decide (g = g')))) m := by
  unfold cmpO
  have e : (kindS (.p g'.p) m).isSome = true := rfl
  simp only [cls_sg, G.om3, e, if_true, M.eq m g g' hg hg']
  rfl
theorem cmp_eq {cl : Cl} {gv : Gv} (G : SigGv gv) (M : MthC cl) {m : Mem} {g g' : Sg} (hg : g.ok) (hg' : g'.ok) : cmpO cl gv .eq (.p g.p) (.p g'.p) m = .ok (.p (.bl (decide (g = g')))) m := by
  unfold cmpO
  have e : (kindS (.p g'.p) m).isSome = true := rfl
  simp only [cls_sg, G.om3, e, if_true, M.eq m g g' hg hg']
  rfl
theorem cmp_eqN {cl : Cl} {gv : Gv} (G : SigGv gv) (M : MthC cl) {m : Mem} {g : Sg} {x : P} (h : isTys [.own 0] (.p x) m = some false) (hk : (kindS (.p x) m).isSome = true) : cmpO cl gv .eq (.p g.p) (.p x) m = .ok (.p (.bl false)) m := by
  unfold cmpO
  simp only [cls_sg, G.om3, hk, if_true, M.eqN m g x h]
  rfl
theorem cmp_in {cl : Cl} {gv : Gv} (G : SigGv gv) (M : MthC cl) {m : Mem} {g : Sg} {x : Tx} : cmpO cl gv .inn (.p (S1 x)) (.p g.p) m = .ok (.p (.bl (decide (x ∈ g.ops.map Op.nm)))) m := by
  unfold cmpO
  simp only [cls_sg, G.om2, M.con m g x]
  rfl
theorem cmp_inN {cl : Cl} {gv : Gv} (G : SigGv gv) (M : MthC cl) {m : Mem} {g : Sg} {x : P} (h : isTys [.str] (.p x) m = some false) : cmpO cl gv .inn (.p x) (.p g.p) m = .ok (.p (.bl false)) m := by
  unfold cmpO
  simp only [cls_sg, G.om2, M.conN m g x h]
  rfl
def opA : Op := ⟨[102], [[115]], [115]⟩
def opB : Op := ⟨[102], [[115]], [116]⟩
def apA : Sg := ⟨[[115], [116]], [opA]⟩
def apB : Sg := ⟨[[115], [116]], [opB]⟩
theorem nm_s : IsNm [115] := ⟨by decide, by decide, by decide⟩
theorem nm_t : IsNm [116] := ⟨by decide, by decide, by decide⟩
theorem nm_f : IsNm [102] := ⟨by decide, by decide, by decide⟩
theorem apA_ok : apA.ok := ⟨by decide, by decide, fun s hs => by
    simp only [apA, List.mem_cons, List.not_mem_nil, or_false] at hs
    rcases hs with rfl | rfl
    · exact nm_s
    · exact nm_t, by decide, by decide, by decide, fun o ho => by
    simp only [apA, List.mem_cons, List.not_mem_nil, or_false] at ho
    subst ho
    exact ⟨nm_f, by decide, by decide, by decide⟩, by decide⟩
theorem apB_ok : apB.ok := ⟨by decide, by decide, fun s hs => by
    simp only [apB, List.mem_cons, List.not_mem_nil, or_false] at hs
    rcases hs with rfl | rfl
    · exact nm_s
    · exact nm_t, by decide, by decide, by decide, fun o ho => by
    simp only [apB, List.mem_cons, List.not_mem_nil, or_false] at ho
    subst ho
    exact ⟨nm_f, by decide, by decide, by decide⟩, by decide⟩
theorem lit_s : P.str (Str.ofString "s") = S1 [115] := congrArg P.str (by decide +kernel)
theorem lit_t : P.str (Str.ofString "t") = S1 [116] := congrArg P.str (by decide +kernel)
theorem lit_f : P.str (Str.ofString "f") = S1 [102] := congrArg P.str (by decide +kernel)
def ApartOk (cl : Cl) : Prop := ∀ m : Mem, cl 14 [] m = .ok (.p (.bl true)) m
def SigLOk (cl : Cl) : Prop := ∀ (m : Mem) (g : Sg), g.ok → cl 13 [.p (.lst [.lst (g.ss.map S1), .lst (g.ops.map Op.p)])] m = .ok (.p g.p) m
theorem apart_1 {cl : Cl} {gv : Gv} (I : InitOk cl) (G : SigGv gv) (M : MthC cl) {m : Mem} : runD cl gv D__law_apart [] m = .ok (.p (.bl true)) m := by
  unfold D__law_apart
  rw [runD_ok (np := 0) rfl]
  have t1 : slS (.p (.lst [opA.p, opB.p])) none (some 1) m = .ok (.p (.lst [opA.p])) m := slP_to (k := 1)
  have t2 : slS (.p (.lst [opA.p, opB.p])) (some 1) none m = .ok (.p (.lst [opB.p])) m := slP_from (k := 1)
  have k1 := sig_make (cl := cl) (gv := gv) (l := .cons (.lst false (.cons (.cst (.str "s")) (.cons (.cst (.str "t")) .nil))) (.cons (.sl (.var 0) .none (.some (.cst (.int 1)))) .nil)) (δ := [some (.p (.lst [opA.p, opB.p]))]) (d1 := .p (.lst (apA.ss.map S1))) (d2 := .p (.lst (apA.ops.map Op.p))) I G (m := m) (g := apA) (by simp [lit_s, lit_t, t1]; simp [apA]) apA_ok (.l _) (.l _)
  have k2 := sig_make (cl := cl) (gv := gv) (l := .cons (.lst false (.cons (.cst (.str "s")) (.cons (.cst (.str "t")) .nil))) (.cons (.sl (.var 0) (.some (.cst (.int 1))) .none) .nil)) (δ := [some (.p (.lst [opA.p, opB.p]))]) (d1 := .p (.lst (apB.ss.map S1))) (d2 := .p (.lst (apB.ops.map Op.p))) I G (m := m) (g := apB) (by simp [lit_s, lit_t, t2]; simp [apB]) apB_ok (.l _) (.l _)
  have q : P.tup [S1 [102], .tup [S1 [115]], S1 [115]] = opA.p := rfl
  have q2 : P.tup [S1 [102], .tup [S1 [115]], S1 [116]] = opB.p := rfl
  have ne := cmp_ne (cl := cl) G M (m := m) apA_ok apB_ok
  rw [decide_eq_false (show ¬ apA = apB by decide)] at ne
  simp [B__law_apart_1, B__law_apart_0, lit_s, lit_t, lit_f, q, q2, -v_frz]
  simp only [lit_s, lit_t] at k1 k2
  simp [k1, k2, ne, -v_frz]
end Dn
end

/-! Dn, part ZE: more of signatures, for the laws. -/
noncomputable section
namespace Dn
open PySem PySem.Spec PyProof.Rows L2
theorem nd_rev {α : Type} {l : List α} (h : l.Nodup) : l.reverse.Nodup := by
  rw [List.Nodup, List.pairwise_reverse]
  exact List.Pairwise.imp (fun h => Ne.symm h) h
theorem anysig_ok {p : Pg} {k : Nat} (h3 : p.fd 3 = some D__law_pull) (h4 : p.fd 4 = some D__law_of) (h6 : p.fd 6 = some D__law_words) (hf : p.fd 23 = some D__law_any_sig) : AnySig (callAt p (k + 4)) := fun m r o h hb => by
  rw [callAt_ok hf]
  exact any_1 (pull_ok h3) (ofl_ok (k := k + 1) h3 h4).ss (words_ok (k := k) h3 h4 h6) h hb
theorem sigl_ok {p : Pg} {k : Nat} (H : InitPg p) (hf : p.fd 13 = some D__law_sig) : SigLOk (callAt p (k + 4)) := fun m g h => by
  rw [callAt_ok hf]
  exact sigl_1 (init_ok H) H.G h
theorem apart_ok {p : Pg} {k : Nat} (H : InitPg p) (M : MthPg p) (hf : p.fd 14 = some D__law_apart) : ApartOk (callAt p (k + 4)) := fun m => by
  rw [callAt_ok hf]
  exact apart_1 (init_ok H) H.G (mth_ok (k := k + 2) M H.G)
theorem Sg.ok.revS {g : Sg} (h : g.ok) : (⟨g.ss.reverse, g.ops⟩ : Sg).ok := ⟨by simpa using h.s1, by simpa using h.s3, fun s hs => h.sn s (by simpa using hs), nd_rev h.sd, h.o1, h.o5, fun o ho => ⟨(h.oo o ho).n, (h.oo o ho).l, fun x hx => by simpa using (h.oo o ho).a x hx, by simpa using (h.oo o ho).r⟩, h.od⟩
theorem Sg.ok.revO {g : Sg} (h : g.ok) : (⟨g.ss, g.ops.reverse⟩ : Sg).ok := ⟨h.s1, h.s3, h.sn, h.sd, by simpa using h.o1, by simpa using h.o5, fun o ho => h.oo o (by simpa using ho), by
  show (g.ops.reverse.map Op.nm).Nodup
  rw [List.map_reverse]
  exact nd_rev h.od⟩
theorem bo_lenG {cl : Cl} {gv : Gv} (G : SigGv gv) (M : MthC cl) {m : Mem} {g : Sg} (hg : g.ok) : bclO cl gv .len [.p g.p] m = .ok (.p (.int g.ops.length)) m := by
  unfold bclO
  simp only [cls_sg, G.om0, M.len m g hg]
  unfold R.calm
  simp only [R.bind_ok, ansI]
  rw [if_pos ⟨by omega, by have := hg.o5; omega⟩]
theorem bo_repG {cl : Cl} {gv : Gv} (G : SigGv gv) (M : MthC cl) {m : Mem} {g : Sg} (hg : g.ok) : bclO cl gv .repr [.p g.p] m = .ok (.p (.str (reprS g.ss.length g.ops.length))) m := by
  unfold bclO
  simp only [cls_sg, G.om1, M.rep m g hg]
  rfl
/-! ### _law_same on it -/
structure Pl (n : Nat) (x : P) : Prop where
  p : x.pl = true
  d : x.dep ≤ n
theorem plL_of {n : Nat} : ∀ {l : List P}, (∀ x ∈ l, Pl n x) → plL l = true ∧ depL l ≤ n
  | [], _ => ⟨rfl, Nat.zero_le _⟩
  | x :: l, h => by
    obtain ⟨a, b⟩ := plL_of fun y hy => h y (List.mem_cons_of_mem _ hy)
    obtain ⟨a', b'⟩ := h x List.mem_cons_self
    refine ⟨?_, ?_⟩
    · show (x.pl && plL l) = true
      rw [a, a']; rfl
    · show max x.dep (depL l) ≤ n
      omega
theorem pl_lst {n : Nat} {l : List P} (h : ∀ x ∈ l, Pl n x) (hl : l.length ≤ 16777216) : Pl (n + 1) (.lst l) := by
  obtain ⟨a, b⟩ := plL_of h
  exact ⟨by show (plL l && decide (l.length ≤ 16777216)) = true; rw [a, decide_eq_true hl]; rfl, by show depL l + 1 ≤ n + 1; omega⟩
theorem pl_tup {n : Nat} {l : List P} (h : ∀ x ∈ l, Pl n x) (hl : l.length ≤ 16777216) : Pl (n + 1) (.tup l) := by
  obtain ⟨a, b⟩ := plL_of h
  exact ⟨by show (plL l && decide (l.length ≤ 16777216)) = true; rw [a, decide_eq_true hl]; rfl, by show depL l + 1 ≤ n + 1; omega⟩
theorem Pl.up {n k : Nat} {x : P} (h : Pl n x) (hk : n ≤ k) : Pl k x := ⟨h.p, Nat.le_trans h.d hk⟩
theorem pl_str {z : Str} : Pl 0 (.str z) := ⟨rfl, Nat.le_refl _⟩
theorem pl_int {i : Int} : Pl 0 (.int i) := ⟨rfl, Nat.le_refl _⟩
theorem pl_bl {i : Bool} : Pl 0 (.bl i) := ⟨rfl, Nat.le_refl _⟩
theorem pl_ss (l : List Tx) : ∀ x ∈ l.map S1, Pl 0 x := fun x hx => by
  obtain ⟨s, _, rfl⟩ := List.mem_map.mp hx
  exact pl_str
theorem pl_op {o : Op} (h : o.ar.length ≤ 3) : Pl 2 o.p := pl_tup (fun x hx => by
  simp only [List.mem_cons, List.not_mem_nil, or_false] at hx
  rcases hx with rfl | rfl | rfl
  · exact pl_str.up (by omega)
  · exact pl_tup (pl_ss _) (by rw [List.length_map]; omega)
  · exact pl_str.up (by omega)) (by simp)
theorem pl_ops {l : List Op} (h : ∀ o ∈ l, o.ar.length ≤ 3) : ∀ x ∈ l.map Op.p, Pl 2 x := fun x hx => by
  obtain ⟨s, hs, rfl⟩ := List.mem_map.mp hx
  exact pl_op (h s hs)
theorem SameOk.use {cl : Cl} {n k : Nat} (H : SameOk cl n) {m : Mem} {x : P} (h : Pl k x) (hk : k < n) : cl 5 [.p x, .p x] m = .ok (.p (.bl true)) m := H m x h.p (Nat.lt_of_le_of_lt h.d hk)
theorem Mem.len_new {m : Mem} {o : MO} : (m.new o).length = m.length + 1 := by simp [Mem.new]
theorem trimU_new {m : Mem} {o : MO} {d : D} : trimU m (.ok d (m.new o)) = .ok (.p .non) m := trimU_app
theorem flat_map {l : List P} : (l.map D.p).all D.flat = true := by simp [D.flat]
theorem lt_new {m : Mem} {o : MO} : m.length < (m.new o).length := by rw [Mem.len_new]; omega
theorem catS_l {x y : List P} {m : Mem} (h : x.length + y.length ≤ 16777216) : binS .add (.p (.lst x)) (.p (.lst y)) m = .ok (.p (.lst (x ++ y))) m := by
  show catS (.p (.lst x)) (.p (.lst y)) m = _
  unfold catS
  rw [if_neg (by intro h; cases h)]
  simp only [seq_l, List.length_map]
  rw [if_pos (line_le h), ← List.map_append]
  exact mkL_p
theorem catS_t {x y : List P} {m : Mem} (h : x.length + y.length ≤ 16777216) : binS .add (.p (.tup x)) (.p (.tup y)) m = .ok (.p (.tup (x ++ y))) m := if_pos (line_le h)
theorem slT_from {m : Mem} {l : List P} {k : Nat} : slS (.p (.tup l)) (some (k : Int)) none m = .ok (.p (.tup (l.drop k))) m := by
  show R.ok (D.p (.tup (cutD l _ _))) m = _
  rw [cut_drop]
/-- a changed operation -/
def Op.bent (q : Op) : Op := ⟨q.nm, if q.ar.length < 3 then q.ar ++ [q.rs] else q.ar.drop 1, q.rs⟩
theorem Op.bent_ok {ss : List Tx} {q : Op} (h : q.ok ss) : q.bent.ok ss := by
  refine ⟨h.n, ?_, ?_, h.r⟩
  · show (if q.ar.length < 3 then q.ar ++ [q.rs] else q.ar.drop 1).length ≤ 3
    have := h.l
    split
    · simp; omega
    · simp; omega
  · show ∀ x ∈ (if q.ar.length < 3 then q.ar ++ [q.rs] else q.ar.drop 1), x ∈ ss
    intro x hx
    split at hx
    · rcases List.mem_append.mp hx with k | k
      · exact h.a x k
      · have : x = q.rs := by simpa using k
        exact this ▸ h.r
    · exact h.a x (List.mem_of_mem_drop hx)
theorem Op.bent_ne {q : Op} : q ≠ q.bent := fun h => by
  have e : q.ar = (if q.ar.length < 3 then q.ar ++ [q.rs] else q.ar.drop 1) := congrArg Op.ar h
  have e := congrArg List.length e
  split at e
  · simp at e
  · simp at e; omega
/-- defs that the laws of signatures share -/
structure SigEnv (cl : Cl) (gv : Gv) : Prop where
  of : OfL cl
  any : AnySig cl
  init : InitOk cl
  mth : MthC cl
  sig : SigLOk cl
  same : SameOk cl 6
  bag : BagOk cl
  G : SigGv gv
structure SigPg (p : Pg) : Prop where
  f2 : p.fd 2 = some D__law_bag
  f3 : p.fd 3 = some D__law_pull
  f4 : p.fd 4 = some D__law_of
  f5 : p.fd 5 = some D__law_same
  f6 : p.fd 6 = some D__law_words
  f13 : p.fd 13 = some D__law_sig
  f23 : p.fd 23 = some D__law_any_sig
  init : InitPg p
  mth : MthPg p
theorem env_ok {p : Pg} {k : Nat} (H : SigPg p) : SigEnv (callAt p (k + 6)) p.gv where
  of := ofl_ok (k := k + 4) H.f3 H.f4
  any := anysig_ok (k := k + 2) H.f3 H.f4 H.f6 H.f23
  init := init_ok (k := k + 3) H.init
  mth := mth_ok (k := k + 5) H.mth H.init.G
  sig := sigl_ok (k := k + 2) H.init H.f13
  same := by rw [Nat.add_comm]; exact same_ok H.f5 6 k
  bag := bag_ok (k := k + 5) H.f2
  G := H.init.G
end Dn
end

/-! Dn, part ZF: a signature's text. -/
noncomputable section
namespace Dn
open PySem PySem.Spec PyProof.Rows L2
abbrev jn (s : Nat) (ps : List Tx) : Tx := TL.joinL [s] ps
theorem join_mk2 (s : Nat) (ps : List Tx) : Txt.join (mk [s]) (ps.map mk) = mk (jn s ps) := by
  rw [TL.join_eq, mk_of (Str.join (mk [s]) (ps.map mk))]
  congr 1
  refine (TL.tl_join (mk [s]) (ps.map mk)).trans ?_
  rw [List.map_map]
  have e : (TL.tl ∘ mk) = id := by funext l; exact mk_list l
  rw [e, List.map_id]
  rfl
theorem split_mk {s : Nat} (hs : s < 256) {ps : List Tx} (h : ps ≠ []) (hp : ∀ p ∈ ps, s ∉ p) : Txt.split (mk (jn s ps)) (mk [s]) = ps.map mk := by
  rw [← join_mk2]
  refine TL.split_join (y := mk [s]) (s := s) (S := []) rfl (by simp [mk, hs]) (by simpa using h) fun p hm => ?_
  obtain ⟨q, hq, rfl⟩ := List.mem_map.mp hm
  exact hp q hq
theorem jn_len (s : Nat) : ∀ ps : List Tx, (jn s ps).length ≤ ps.flatten.length + ps.length
  | [] => Nat.zero_le _
  | [p] => by show p.length ≤ _; simp
  | p :: q :: r => by
    have := jn_len s (q :: r)
    show (p ++ ([s] ++ jn s (q :: r))).length ≤ _
    simp only [List.length_append, List.length_cons, List.length_nil, List.flatten_cons] at this ⊢
    omega
theorem S1_map (ps : List Tx) : ps.map S1 = (ps.map mk).map P.str := by simp [S1, Function.comp_def]
theorem j_jn {s : Nat} {ps : List Tx} {m : Mem} (h : ps.flatten.length + ps.length ≤ 16777216) : bmtS .join (.p (S1 [s])) [.p (.lst (ps.map S1))] m = .ok (.p (S1 (jn s ps))) m := by
  rw [S1_map]
  unfold S1 bmtS joinS seqP
  simp only [seq_l, allP_map, Option.bind_some, strsP_map, sum_len, mk_len, List.length_cons, List.length_nil, List.length_map, Nat.zero_add, Nat.mul_one, if_pos h, join_mk2]
theorem j_emp {ps : List Tx} {m : Mem} (h : ps.flatten.length ≤ 16777216) : bmtS .join (.p (S1 [])) [.p (.lst (ps.map S1))] m = .ok (.p (S1 ps.flatten)) m := by
  rw [S1_map]
  exact j_join h
theorem sp_jn {s : Nat} (hs : s < 256) {ps : List Tx} {m : Mem} (h : ps ≠ []) (hp : ∀ p ∈ ps, s ∉ p) (hl : (jn s ps).length ≤ 1000000) : bmtS .split (.p (S1 (jn s ps))) [.p (S1 [s])] m = .ok (.p (.lst (ps.map S1))) m := by
  unfold S1 bmtS splitS
  simp only [mk_len, split_mk hs h hp]
  rw [if_pos ⟨rfl, line_le (by omega)⟩, List.map_map]
  rfl
theorem jn_nl (s : Nat) : ∀ ls : List Tx, jn s (ls ++ [[]]) = (ls.map (· ++ [s])).flatten
  | [] => rfl
  | [p] => by show p ++ ([s] ++ []) = _; simp
  | p :: q :: r => by
    show p ++ ([s] ++ jn s ((q :: r) ++ [[]])) = _
    rw [jn_nl s (q :: r)]
    simp
def sortsW : Tx := [115, 111, 114, 116, 115]
def opW : Tx := [111, 112]
def gtW : Tx := [62]
def Op.ws (o : Op) : List Tx := opW :: o.nm :: (o.ar ++ [gtW, o.rs])
def Op.line (o : Op) : Tx := jn 32 o.ws
def Sg.ws (g : Sg) : List Tx := sortsW :: g.ss
def Sg.head (g : Sg) : Tx := jn 32 g.ws
def Sg.lines (g : Sg) : List Tx := g.head :: g.ops.map Op.line
def Sg.text (g : Sg) : Tx := (g.lines.map (· ++ [10])).flatten
theorem lit_sorts : P.str (Str.ofString "sorts") = S1 sortsW := congrArg P.str (by decide +kernel)
theorem lit_op : P.str (Str.ofString "op") = S1 opW := congrArg P.str (by decide +kernel)
theorem lit_gt : P.str (Str.ofString ">") = S1 gtW := congrArg P.str (by decide +kernel)
theorem lit_sp : P.str (Str.ofString " ") = S1 [32] := congrArg P.str (by decide +kernel)
theorem lit_nl : P.str (Str.ofString "\n") = S1 [10] := congrArg P.str (by decide +kernel)
theorem lit_emp : P.str (Str.ofString "") = S1 [] := congrArg P.str (by decide +kernel)
/-! bounds -/
theorem flat_len {n : Nat} : ∀ {ps : List Tx}, (∀ p ∈ ps, p.length ≤ n) → ps.flatten.length ≤ n * ps.length
  | [], _ => Nat.zero_le _
  | p :: ps, h => by
    have := flat_len fun q hq => h q (List.mem_cons_of_mem _ hq)
    have h1 := h p List.mem_cons_self
    rw [List.flatten_cons, List.length_append, List.length_cons, Nat.mul_succ]
    omega
theorem Op.ws_nm {ss : List Tx} (hs : ∀ s ∈ ss, IsNm s) {o : Op} (h : o.ok ss) : ∀ p ∈ o.ws, 1 ≤ p.length ∧ p.length ≤ 6 ∧ (∀ c ∈ p, 33 ≤ c ∧ c ≤ 122) := fun p hp => by
  have nm : ∀ q, IsNm q → 1 ≤ q.length ∧ q.length ≤ 6 ∧ (∀ c ∈ q, 33 ≤ c ∧ c ≤ 122) := fun q hq => ⟨hq.1, hq.2.1, fun c hc => by have := hq.2.2 c hc; omega⟩
  unfold Op.ws at hp
  simp only [List.mem_cons, List.mem_append, List.not_mem_nil, or_false] at hp
  rcases hp with rfl | rfl | hp | rfl | rfl
  · exact ⟨by decide, by decide, by decide⟩
  · exact nm _ h.n
  · exact nm _ (hs _ (h.a p hp))
  · exact ⟨by decide, by decide, by decide⟩
  · exact nm _ (hs _ h.r)
theorem Op.ws_len {ss : List Tx} {o : Op} (h : o.ok ss) : o.ws.length ≤ 7 ∧ 4 ≤ o.ws.length := by
  have := h.l
  unfold Op.ws
  simp
  omega
theorem Op.line_len {ss : List Tx} (hs : ∀ s ∈ ss, IsNm s) {o : Op} (h : o.ok ss) : o.line.length ≤ 49 := by
  have a := jn_len 32 o.ws
  have b := flat_len (n := 6) fun p hp => (Op.ws_nm hs h p hp).2.1
  have c := (Op.ws_len h).1
  show (jn 32 o.ws).length ≤ 49
  omega
theorem Sg.ok.ws_nm {g : Sg} (hg : g.ok) : ∀ p ∈ g.ws, 1 ≤ p.length ∧ p.length ≤ 6 ∧ (∀ c ∈ p, 33 ≤ c ∧ c ≤ 122) := fun p hp => by
  rcases List.mem_cons.mp hp with rfl | hp
  · exact ⟨by decide, by decide, by decide⟩
  · have hq := hg.sn p hp
    exact ⟨hq.1, hq.2.1, fun c hc => by have := hq.2.2 c hc; omega⟩
theorem Sg.ok.ws_len {g : Sg} (hg : g.ok) : g.ws.length ≤ 4 ∧ 2 ≤ g.ws.length := by
  have := hg.s3
  have := hg.s1
  unfold Sg.ws
  simp
  omega
theorem Sg.ok.head_len {g : Sg} (hg : g.ok) : g.head.length ≤ 49 := by
  have a := jn_len 32 g.ws
  have b := flat_len (n := 6) fun p hp => (hg.ws_nm p hp).2.1
  have c := hg.ws_len.1
  show (jn 32 g.ws).length ≤ 49
  omega
theorem jn_mem {s c : Nat} : ∀ {ps : List Tx}, c ∈ jn s ps → c = s ∨ ∃ p ∈ ps, c ∈ p
  | [], h => by cases h
  | [p], h => .inr ⟨p, List.mem_cons_self, h⟩
  | p :: q :: r, h => by
    have h : c ∈ p ++ ([s] ++ jn s (q :: r)) := h
    rcases List.mem_append.mp h with h | h
    · exact .inr ⟨p, List.mem_cons_self, h⟩
    rcases List.mem_append.mp h with h | h
    · exact .inl (by simpa using h)
    · rcases jn_mem h with h | ⟨z, hz, h⟩
      · exact .inl h
      · exact .inr ⟨z, List.mem_cons_of_mem _ hz, h⟩
theorem Sg.ok.line_ok {g : Sg} (hg : g.ok) : ∀ l ∈ g.lines, l.length ≤ 49 ∧ (∀ c ∈ l, 32 ≤ c ∧ c ≤ 122) := fun l hl => by
  rcases List.mem_cons.mp hl with rfl | hl
  · refine ⟨hg.head_len, fun c hc => ?_⟩
    rcases jn_mem hc with rfl | ⟨p, hp, hc⟩
    · omega
    · have := (hg.ws_nm p hp).2.2 c hc; omega
  · obtain ⟨o, ho, rfl⟩ := List.mem_map.mp hl
    refine ⟨Op.line_len hg.sn (hg.oo o ho), fun c hc => ?_⟩
    rcases jn_mem hc with rfl | ⟨p, hp, hc⟩
    · omega
    · have := (Op.ws_nm hg.sn (hg.oo o ho) p hp).2.2 c hc; omega
theorem Sg.ok.lines_len {g : Sg} (hg : g.ok) : g.lines.length ≤ 6 := by
  have := hg.o5
  unfold Sg.lines
  simp
  omega
theorem Sg.ok.text_len {g : Sg} (hg : g.ok) : g.text.length ≤ 300 := by
  have b := flat_len (n := 50) (ps := g.lines.map (· ++ [10])) fun p hp => by
    obtain ⟨l, hl, rfl⟩ := List.mem_map.mp hp
    have := (hg.line_ok l hl).1
    simp
    omega
  have c := hg.lines_len
  rw [List.length_map] at b
  exact Nat.le_trans b (by omega)
theorem Sg.text_jn (g : Sg) : g.text = jn 10 (g.lines ++ [[]]) := (jn_nl 10 g.lines).symm
/-! ### the loop that lays the lines -/
section
variable {cl : Cl} {gv : Gv}
/-- a for's turn -/
def bodyF (cl : Cl) (gv : Gv) (t : T) (b : RB) : D → Sl → Mem → S := fun x δ m => match asgT t x m δ with | some δ' => denB cl gv b δ' m | none => .no
theorem bodyF_ {t : T} {b : RB} {x : D} {δ δ' : Sl} {m : Mem} (h : asgT t x m δ = some δ') : bodyF cl gv t b x δ m = denB cl gv b δ' m := by
  unfold bodyF
  rw [h]
theorem s_forF {t : T} {it : RI} {b : RB} {δ : Sl} {m : Mem} : denS cl gv (.forr t it b) δ m = (denI cl gv it δ m).toS δ fun its m => forRun (bodyF cl gv t b) its its.l δ m := Eq.trans rfl rfl
theorem txt_loop {e : RE} {x0 x5 : Option D} {m : Mem} {ss : List Tx} {t : Its} (ht : t.n = none) (hE : ∀ (o : Op) (M : Mem), o.ok ss → den cl gv e [x0, some (.ref m.length), some (.p (S1 o.nm)), some (.p (.tup (o.ar.map S1))), some (.p (S1 o.rs)), x5] M = .ok (.p (S1 o.line)) M) :
    ∀ (ops : List Op) (acc : List P) (x2 x3 x4 : Option D), (∀ o ∈ ops, o.ok ss) → acc.length + ops.length < 16777216 → ∃ x2' x3' x4', forRun (bodyF cl gv (.tp (.cons (.nm 2) (.cons (.nm 3) (.cons (.nm 4) .nil)))) (.cons (.ex (.bmt .append (.var 1) (.cons e .nil))) .nil)) t (ops.map fun o => .p o.p) [x0, some (.ref m.length), x2, x3, x4, x5] (m.new (.lst (acc.map D.p))) = .ok .nx [x0, some (.ref m.length), x2', x3', x4', x5] (m.new (.lst ((acc ++ ops.map fun o => S1 o.line).map D.p)))
  | [], acc, x2, x3, x4, _, _ => ⟨x2, x3, x4, by
    rw [List.map_nil, List.map_nil, List.append_nil]
    unfold forRun
    rw [if_pos (by unfold Its.held; rw [ht]; trivial)]⟩
  | o :: ops, acc, x2, x3, x4, ho, hl => by
    have hl' : acc.length + (ops.length + 1) < 16777216 := hl
    obtain ⟨y2, y3, y4, ih⟩ := txt_loop ht hE ops (acc ++ [S1 o.line]) (some (.p (S1 o.nm))) (some (.p (.tup (o.ar.map S1)))) (some (.p (S1 o.rs))) (fun q hq => ho q (List.mem_cons_of_mem _ hq)) (by rw [List.length_append]; show acc.length + 1 + ops.length < _; omega)
    refine ⟨y2, y3, y4, ?_⟩
    have pre : bmPre .append (.ref m.length) (m.new (.lst (acc.map D.p))) = true := by
      unfold bmPre
      simp only [Mem.get_last]
      rfl
    have ap : bmtS .append (.ref m.length) [.p (S1 o.line)] (m.new (.lst (acc.map D.p))) = .ok (.p .non) (m.new (.lst ((acc ++ [S1 o.line]).map D.p))) := by
      unfold bmtS appendS
      simp only [Mem.get_last]
      rw [if_pos (by rw [PySem.sizeLine_eq, List.length_map]; show acc.length < 16777216; omega), Mem.put_last, List.map_append]
      rfl
    have tm : trimU (m.new (.lst (acc.map D.p))) (.ok (.p .non) (m.new (.lst ((acc ++ [S1 o.line]).map D.p)))) = .ok (.p .non) (m.new (.lst ((acc ++ [S1 o.line]).map D.p))) := by
      have := trimU_put (m := m.new (.lst (acc.map D.p))) (r := m.length) (o := .lst ((acc ++ [S1 o.line]).map D.p)) (d := .p .non) flat_map
      rwa [Mem.put_last] at this
    have hE' := hE o (m.new (.lst (acc.map D.p))) (ho o List.mem_cons_self)
    rw [List.map_cons]
    unfold forRun
    rw [if_pos (by unfold Its.held; rw [ht]; trivial)]
    have as : asgT (.tp (.cons (.nm 2) (.cons (.nm 3) (.cons (.nm 4) .nil)))) (.p o.p) (m.new (.lst (acc.map D.p))) [x0, some (.ref m.length), x2, x3, x4, x5] = some [x0, some (.ref m.length), some (.p (S1 o.nm)), some (.p (.tup (o.ar.map S1))), some (.p (S1 o.rs)), x5] := rfl
    have st : denB cl gv (.cons (.ex (.bmt .append (.var 1) (.cons e .nil))) .nil) [x0, some (.ref m.length), some (.p (S1 o.nm)), some (.p (.tup (o.ar.map S1))), some (.p (S1 o.rs)), x5] (m.new (.lst (acc.map D.p))) = .ok .nx [x0, some (.ref m.length), some (.p (S1 o.nm)), some (.p (.tup (o.ar.map S1))), some (.p (S1 o.rs)), x5] (m.new (.lst ((acc ++ [S1 o.line]).map D.p))) := by
      simp only [b_cons', s_ex', v_bmt, Dn.v_var, slot_, List.getElem?_cons_succ, List.getElem?_cons_zero, R.bind_ok, pre, if_true, l_cons, l_nil, hE', ap, tm, toS_ok, b_nil']
    simp only [bodyF_ as, st]
    rw [ih]
    simp
/-- the lines, joined -/
theorem txt_end {x0 x2 x3 x4 x5 : Option D} {m : Mem} {g : Sg} (hg : g.ok) : trimR m (endS (denB cl gv (.cons (.ret (.bmt .join (.cst (.str "")) (.cons (.lc false (.bin .add (.var 5) (.cst (.str "\n"))) (.nm 5) (.seq (.var 1)) .none [5]) .nil))) .nil) [x0, some (.ref m.length), x2, x3, x4, x5] (m.new (.lst ((g.lines.map S1).map D.p))))) = .ok (.p (S1 g.text)) m := by
  have a1 : den cl gv (.lc false (.bin .add (.var 5) (.cst (.str "\n"))) (.nm 5) (.seq (.var 1)) .none [5]) [x0, some (.ref m.length), x2, x3, x4, x5] (m.new (.lst ((g.lines.map S1).map D.p))) = .ok (.p (.lst ((g.lines.map (· ++ [10])).map S1))) (m.new (.lst ((g.lines.map S1).map D.p))) := by
    obtain ⟨t, e1, e2, e3⟩ := (Vw.r (m := m.new (.lst ((g.lines.map S1).map D.p))) m.length (g.lines.map S1) Mem.get_last).seq
    generalize m.new (.lst ((g.lines.map S1).map D.p)) = M at e1 e3 ⊢
    rw [v_lc]
    simp only [i_seq', Dn.v_var, slot_, List.getElem?_cons_succ, List.getElem?_cons_zero, R.bind_ok, e1, oR_some]
    rw [e2, List.map_map, lc_mapH e3 (h := D.p ∘ S1) (g := fun l => .p (S1 (l ++ [10]))) fun l hl => ?_]
    · have : (g.lines.map fun l => D.p (S1 (l ++ [10]))) = ((g.lines.map (· ++ [10])).map S1).map D.p := by simp [Function.comp_def]
      rw [R.bind_ok, this]
      exact mkL_p
    · have := (hg.line_ok l hl).1
      have c := o_cat (m := M) (l := l) (r := [10]) (line_le (by simp; omega))
      simp [turn_, wipeD, lit_nl]
      show (binS .add (.p (.str (mk l))) (.p (.str (mk [10]))) _).bind _ = _
      rw [c]
      rfl
  have pre : bmPre .join (.p (S1 [])) (m.new (.lst ((g.lines.map S1).map D.p))) = true := rfl
  have jj := j_emp (ps := g.lines.map (· ++ [10])) (m := m.new (.lst ((g.lines.map S1).map D.p))) (Nat.le_trans hg.text_len (by omega))
  simp only [b_cons', s_ret', v_bmt, v_cst, lit_emp, R.bind_ok, pre, if_true, l_cons, l_nil, a1, jj, toS_ok, endS_rt]
  exact trim_app
end
end Dn
end

/-! Dn, part ZG: a signature's text is written; read: the lines. -/
noncomputable section
namespace Dn
open PySem PySem.Spec PyProof.Rows L2
def TextOk (cl : Cl) : Prop := ∀ (m : Mem) (g : Sg), g.ok → cl 32 [.p g.p] m = .ok (.p (S1 g.text)) m
def SigTextOk (cl : Cl) : Prop := ∀ (m : Mem) (g : Sg), g.ok → cl 75 [.p (.lst [.lst (g.ss.map S1), .lst (g.ops.map Op.p)])] m = .ok (.p (S1 g.text)) m
def LinesOk (cl : Cl) : Prop := ∀ (m : Mem) (g : Sg), g.ok → cl 31 [.p (S1 g.text)] m = .ok (.p (.lst (g.lines.map S1))) m
def OpInOk (cl : Cl) : Prop := ∀ (m : Mem) (ss : List Tx) (o : Op), (∀ s ∈ ss, IsNm s) → o.ok ss → cl 30 [.p (.lst (o.ws.map S1))] m = .ok (.p o.p) m
section
variable {cl : Cl} {gv : Gv}
theorem jn_ops {ss : List Tx} (hs : ∀ s ∈ ss, IsNm s) {o : Op} (ho : o.ok ss) {m : Mem} : bmtS .join (.p (S1 [32])) [.p (.lst (o.ws.map S1))] m = .ok (.p (S1 o.line)) m := by
  have b := flat_len (n := 6) fun p hp => (Op.ws_nm hs ho p hp).2.1
  have c := (Op.ws_len ho).1
  exact j_jn (by omega)
theorem jn_head {g : Sg} (hg : g.ok) {m : Mem} : bmtS .join (.p (S1 [32])) [.p (.lst (g.ws.map S1))] m = .ok (.p (S1 g.head)) m := by
  have b := flat_len (n := 6) fun p hp => (hg.ws_nm p hp).2.1
  have c := hg.ws_len.1
  exact j_jn (by omega)
theorem text_1 (G : SigGv gv) {m : Mem} {g : Sg} (hg : g.ok) : runD cl gv D_Signature_text [.p g.p] m = .ok (.p (S1 g.text)) m := by
  unfold D_Signature_text
  rw [runD_ok (np := 1) rfl]
  have hd : den cl gv (.bmt .join (.cst (.str " ")) (.cons (.lst false (.cons (.cst (.str "sorts")) (.star (.fld (.var 0) 2) .nil))) .nil)) [some (.p g.p), none, none, none, none, none] m = .ok (.p (S1 g.head)) m := by
    have ll : lnS (m := m) false (mkL false) (.p (S1 sortsW) :: (g.ss.map S1).map D.p) = .ok (.p (.lst (g.ws.map S1))) m := by
      rw [lnS_f (line_le (by have := hg.s3; simp; omega))]
      exact mkL_p (l := S1 sortsW :: g.ss.map S1)
    have pre : bmPre .join (.p (S1 [32])) m = true := rfl
    simp only [v_bmt, v_cst, lit_sp, lit_sorts, R.bind_ok, pre, if_true, l_cons, l_nil, l_star, v_lst, v_fld, Dn.v_var, slot_, List.getElem?_cons_zero, fl2 G, seq_t, oR_some, List.append_nil, pl_cons, pl_star, ll, jn_head hg]
  have hE : ∀ (o : Op) (M : Mem), o.ok g.ss → den cl gv (.bmt .join (.cst (.str " ")) (.cons (.lst false (.cons (.cst (.str "op")) (.cons (.var 2) (.star (.var 3) (.cons (.cst (.str ">")) (.cons (.var 4) .nil)))))) .nil)) [some (.p g.p), some (.ref m.length), some (.p (S1 o.nm)), some (.p (.tup (o.ar.map S1))), some (.p (S1 o.rs)), none] M = .ok (.p (S1 o.line)) M := fun o M ho => by
    have e : (.p (S1 opW) :: .p (S1 o.nm) :: ((o.ar.map S1).map D.p ++ [.p (S1 gtW), .p (S1 o.rs)])) = (o.ws.map S1).map D.p := by simp [Op.ws]
    have ll : lnS (m := M) false (mkL false) (.p (S1 opW) :: .p (S1 o.nm) :: ((o.ar.map S1).map D.p ++ [.p (S1 gtW), .p (S1 o.rs)])) = .ok (.p (.lst (o.ws.map S1))) M := by
      rw [e, lnS_f (line_le (by have := (Op.ws_len ho).1; simp; omega))]
      exact mkL_p
    have pre : bmPre .join (.p (S1 [32])) M = true := rfl
    simp only [v_bmt, v_cst, lit_sp, lit_op, lit_gt, R.bind_ok, pre, if_true, l_cons, l_nil, l_star, v_lst, Dn.v_var, slot_, List.getElem?_cons_succ, List.getElem?_cons_zero, seq_t, oR_some, pl_cons, pl_star, ll, jn_ops hg.sn ho]
  obtain ⟨y2, y3, y4, lp⟩ := txt_loop (cl := cl) (gv := gv) (m := m) (t := ⟨g.ops.map fun o => .p o.p, none⟩) rfl hE g.ops [S1 g.head] none none none hg.oo (by have := hg.o5; show 1 + g.ops.length < _; omega)
  have ee : [S1 g.head] ++ (g.ops.map fun o => S1 o.line) = g.lines.map S1 := by simp [Sg.lines, Function.comp_def]
  rw [ee] at lp
  have nw : mkL true [.p (S1 g.head)] m = .ok (.ref m.length) (m.new (.lst ([S1 g.head].map D.p))) := rfl
  have sq : itSeq (.p (.tup (g.ops.map Op.p))) (m.new (.lst ([S1 g.head].map D.p))) = some ⟨g.ops.map fun o => .p o.p, none⟩ := by
    rw [its_tup, List.map_map]
    rfl
  have fin := txt_end (cl := cl) (gv := gv) (m := m) (x0 := some (.p g.p)) (x2 := y2) (x3 := y3) (x4 := y4) (x5 := none) hg
  rw [B_Signature_text_3, B_Signature_text_2, B_Signature_text_1, B_Signature_text_0]
  have st : startD 6 [.p g.p] = [some (.p g.p), none, none, none, none, none] := rfl
  rw [st, b_cons', s_set']
  simp only [v_lst, l_cons, l_nil, hd, R.bind_ok, pl_cons, pl_nil, lnS_t, nw, toS_ok, List.set_cons_succ, List.set_cons_zero]
  rw [b_cons', s_forF]
  simp only [i_seq', v_fld, Dn.v_var, slot_, List.getElem?_cons_zero, R.bind_ok, fl1 G, sq, oR_some, toS_ok]
  rw [lp]
  exact fin
theorem sigtext_1 {m : Mem} {g : Sg} (hg : g.ok) : runD cl gv D__law_sig_text [.p (.lst [.lst (g.ss.map S1), .lst (g.ops.map Op.p)])] m = .ok (.p (S1 g.text)) m := by
  unfold D__law_sig_text
  rw [runD_ok (np := 1) rfl]
  have hd : den cl gv (.bmt .join (.cst (.str " ")) (.cons (.bin .add (.lst false (.cons (.cst (.str "sorts")) .nil)) (.ix (.var 0) (.cst (.int 0)))) .nil)) [some (.p (.lst [.lst (g.ss.map S1), .lst (g.ops.map Op.p)])), none, none, none, none, none] m = .ok (.p (S1 g.head)) m := by
    have pre : bmPre .join (.p (S1 [32])) m = true := rfl
    have ml : mkL false [.p (S1 sortsW)] m = .ok (.p (.lst [S1 sortsW])) m := mkL_p (l := [S1 sortsW])
    have ct : binS .add (.p (.lst [S1 sortsW])) (.p (.lst (g.ss.map S1))) m = .ok (.p (.lst (g.ws.map S1))) m := catS_l (by have := hg.s3; simp; omega)
    simp only [v_bmt, v_bin, v_ix, v_cst, lit_sp, lit_sorts, R.bind_ok, pre, if_true, l_cons, l_nil, v_lst, Dn.v_var, slot_, List.getElem?_cons_zero, ix_l0, pl_cons, pl_nil, lnS_t, ml, ct, jn_head hg]
  have hE : ∀ (o : Op) (M : Mem), o.ok g.ss → den cl gv (.bmt .join (.cst (.str " ")) (.cons (.bin .add (.bin .add (.lst false (.cons (.cst (.str "op")) (.cons (.var 2) .nil))) (.bcl .list (.cons (.var 3) .nil))) (.lst false (.cons (.cst (.str ">")) (.cons (.var 4) .nil)))) .nil)) [some (.p (.lst [.lst (g.ss.map S1), .lst (g.ops.map Op.p)])), some (.ref m.length), some (.p (S1 o.nm)), some (.p (.tup (o.ar.map S1))), some (.p (S1 o.rs)), none] M = .ok (.p (S1 o.line)) M := fun o M ho => by
    have pre : bmPre .join (.p (S1 [32])) M = true := rfl
    have l3 := ho.l
    have m1 : mkL false [.p (S1 opW), .p (S1 o.nm)] M = .ok (.p (.lst [S1 opW, S1 o.nm])) M := mkL_p (l := [S1 opW, S1 o.nm])
    have m2 : mkL false [.p (S1 gtW), .p (S1 o.rs)] M = .ok (.p (.lst [S1 gtW, S1 o.rs])) M := mkL_p (l := [S1 gtW, S1 o.rs])
    have c1 : binS .add (.p (.lst [S1 opW, S1 o.nm])) (.p (.lst (o.ar.map S1))) M = .ok (.p (.lst ([S1 opW, S1 o.nm] ++ o.ar.map S1))) M := catS_l (by simp; omega)
    have c2 : binS .add (.p (.lst ([S1 opW, S1 o.nm] ++ o.ar.map S1))) (.p (.lst [S1 gtW, S1 o.rs])) M = .ok (.p (.lst (o.ws.map S1))) M := by
      rw [catS_l (by simp; omega)]
      simp [Op.ws]
    simp only [v_bmt, v_bin, v_cst, v_bcl, bo_list, list_t, lit_sp, lit_op, lit_gt, R.bind_ok, pre, if_true, l_cons, l_nil, v_lst, Dn.v_var, slot_, List.getElem?_cons_succ, List.getElem?_cons_zero, pl_cons, pl_nil, lnS_t, m1, m2, c1, c2, jn_ops hg.sn ho]
  obtain ⟨y2, y3, y4, lp⟩ := txt_loop (cl := cl) (gv := gv) (m := m) (t := ⟨g.ops.map fun o => .p o.p, none⟩) rfl hE g.ops [S1 g.head] none none none hg.oo (by have := hg.o5; show 1 + g.ops.length < _; omega)
  have ee : [S1 g.head] ++ (g.ops.map fun o => S1 o.line) = g.lines.map S1 := by simp [Sg.lines, Function.comp_def]
  rw [ee] at lp
  have nw : mkL true [.p (S1 g.head)] m = .ok (.ref m.length) (m.new (.lst ([S1 g.head].map D.p))) := rfl
  have sq : itSeq (.p (.lst (g.ops.map Op.p))) (m.new (.lst ([S1 g.head].map D.p))) = some ⟨g.ops.map fun o => .p o.p, none⟩ := by
    rw [its_lst, List.map_map]
    rfl
  have fin := txt_end (cl := cl) (gv := gv) (m := m) (x0 := some (.p (.lst [.lst (g.ss.map S1), .lst (g.ops.map Op.p)]))) (x2 := y2) (x3 := y3) (x4 := y4) (x5 := none) hg
  rw [B__law_sig_text_3, B__law_sig_text_2, B__law_sig_text_1, B__law_sig_text_0]
  have st : startD 6 [.p (.lst [.lst (g.ss.map S1), .lst (g.ops.map Op.p)])] = [some (.p (.lst [.lst (g.ss.map S1), .lst (g.ops.map Op.p)])), none, none, none, none, none] := rfl
  rw [st, b_cons', s_set']
  simp only [v_lst, l_cons, l_nil, hd, R.bind_ok, pl_cons, pl_nil, lnS_t, nw, toS_ok, List.set_cons_succ, List.set_cons_zero]
  rw [b_cons', s_forF]
  simp only [i_seq', v_ix, v_cst, Dn.v_var, slot_, List.getElem?_cons_zero, R.bind_ok, ix_l1, sq, oR_some, toS_ok]
  rw [lp]
  exact fin
/-! ### slices and places from the end -/
theorem v_neg {a : RE} {δ : Sl} {m : Mem} : den cl gv (.neg a) δ m = (den cl gv a δ m).bind fun x m => match x with | .p (.int i) => .ok (.p (.int (-i))) m | _ => .no := Eq.trans rfl rfl
theorem cut_init {α : Type} (l : List α) (x : α) : cutD (l ++ [x]) none (some (-1)) = l := by
  unfold cutD
  rw [HT.sIx_none, List.drop_zero, Nat.sub_zero]
  have : HT.sIx (l ++ [x]).length (l ++ [x]).length (some (-1)) = l.length := by
    unfold HT.sIx
    simp only
    rw [if_pos (by omega), List.length_append, List.length_singleton]
    omega
  rw [this, List.take_left]
theorem cut_mid {α : Type} (a b x y : α) (l : List α) : cutD (a :: b :: (l ++ [x, y])) (some 2) (some (-2)) = l := by
  unfold cutD
  have h1 : HT.sIx (a :: b :: (l ++ [x, y])).length 0 (some 2) = 2 := by
    have := HT.sIx_nat (a :: b :: (l ++ [x, y])).length 0 2
    refine Eq.trans this ?_
    simp
  have h2 : HT.sIx (a :: b :: (l ++ [x, y])).length (a :: b :: (l ++ [x, y])).length (some (-2)) = l.length + 2 := by
    unfold HT.sIx
    simp only
    rw [if_pos (by omega)]
    simp only [List.length_cons, List.length_append, List.length_nil]
    omega
  rw [h1, h2]
  show ((l ++ [x, y])).take _ = _
  rw [show l.length + 2 - 2 = l.length by omega, List.take_left]
theorem at_m1 {α : Type} (l : List α) (x y : α) : atI (l ++ [x, y]) (-1) = some y := by
  have e : ixN (l ++ [x, y]).length (-1) = some (l.length + 1) := by
    unfold ixN
    rw [if_neg (by omega), if_pos (by simp; omega)]
    simp only [List.length_cons, List.length_append, List.length_nil]
    congr 1
    omega
  unfold atI
  rw [e]
  simp
theorem at_m2 {α : Type} (l : List α) (x y : α) : atI (l ++ [x, y]) (-2) = some x := by
  have e : ixN (l ++ [x, y]).length (-2) = some l.length := by
    unfold ixN
    rw [if_neg (by omega), if_pos (by simp; omega)]
    simp only [List.length_cons, List.length_append, List.length_nil]
    congr 1
    omega
  unfold atI
  rw [e]
  simp
@[simp] theorem k_neS {m : Mem} {x y : Str} : cmpS .ne (.p (.str x)) (.p (.str y)) m = .ok (.p (.bl (!decide (x = y)))) m := Eq.trans rfl rfl
theorem k_neX {m : Mem} {x y : Tx} : cmpS .ne (.p (S1 x)) (.p (S1 y)) m = .ok (.p (.bl (!decide (x = y)))) m := by
  unfold S1
  rw [k_neS]
  congr 4
  exact decide_eq_decide.mpr mk_inj
theorem k_eqX {m : Mem} {x y : Tx} : cmpS .eq (.p (S1 x)) (.p (S1 y)) m = .ok (.p (.bl (decide (x = y)))) m := by
  unfold S1
  rw [k_eqS]
  congr 3
  exact decide_eq_decide.mpr mk_inj
theorem co_neX {m : Mem} {x y : Tx} : cmpO cl gv .ne (.p (S1 x)) (.p (S1 y)) m = .ok (.p (.bl (!decide (x = y)))) m := by
  rw [co_ne rfl]
  exact k_neX
theorem co_eqX {m : Mem} {x y : Tx} : cmpO cl gv .eq (.p (S1 x)) (.p (S1 y)) m = .ok (.p (.bl (decide (x = y)))) m := by
  rw [co_eq rfl]
  exact k_eqX
theorem lines_1 {m : Mem} {g : Sg} (hg : g.ok) : runD cl gv D_lines_of [.p (S1 g.text)] m = .ok (.p (.lst (g.lines.map S1))) m := by
  unfold D_lines_of
  rw [runD_ok (np := 1) rfl]
  have sp := sp_jn (s := 10) (m := m) (ps := g.lines ++ [[]]) (by decide) (by simp) (fun p hp => by
    rcases List.mem_append.mp hp with h | h
    · intro z
      have := (hg.line_ok p h).2 10 z
      omega
    · have : p = [] := by simpa using h
      rw [this]
      simp) (by rw [← Sg.text_jn]; have := hg.text_len; omega)
  rw [← Sg.text_jn, List.map_append] at sp
  have pre : bmPre .split (.p (S1 g.text)) m = true := rfl
  have sl : slS (.p (.lst (g.lines.map S1 ++ [[]].map S1))) none (some (-1)) m = .ok (.p (.lst (g.lines.map S1))) m := by
    show R.ok (D.p (.lst (cutD _ _ _))) m = _
    congr 2
    exact congrArg P.lst (cut_init _ _)
  simp only [List.map_cons, List.map_nil] at sl sp
  rw [B_lines_of_2, B_lines_of_0]
  simp only [b_cons', s_ite', v_not, v_isi, start_, List.map_cons, List.map_nil, List.length_cons, List.length_nil, List.replicate, List.cons_append, List.nil_append, Dn.v_var, List.getElem?_cons_zero, slot_, R.bind_ok, ty_S, oB_some, asB_bl, Bool.not_true, toS_ok, Bool.false_eq_true, if_false, b_nil', s_ret', v_sl, v_bmt, pre, if_true, l_cons, l_nil, v_cst, lit_nl, sp, o_none', o_some', v_neg, asI_, sl, endS_rt]
  exact trim_self
theorem opin_1 {m : Mem} {ss : List Tx} {o : Op} (hs : ∀ s ∈ ss, IsNm s) (ho : o.ok ss) : runD cl gv D_operation_in [.p (.lst (o.ws.map S1))] m = .ok (.p o.p) m := by
  unfold D_operation_in
  rw [runD_ok (np := 1) rfl]
  have e : o.ws.map S1 = S1 opW :: S1 o.nm :: (o.ar.map S1 ++ [S1 gtW, S1 o.rs]) := by simp [Op.ws]
  have ln : 4 ≤ (o.ws.map S1).length := by rw [List.length_map]; exact (Op.ws_len ho).2
  have ln' : ¬ ((o.ws.map S1).length : Int) < 4 := by omega
  rw [e] at ln' ⊢
  have i1 : ixS (.p (.lst (S1 opW :: S1 o.nm :: (o.ar.map S1 ++ [S1 gtW, S1 o.rs])))) (.p (.int (-1))) m = .ok (.p (S1 o.rs)) m := by
    have : atI ((S1 opW :: S1 o.nm :: (o.ar.map S1 ++ [S1 gtW, S1 o.rs])).map D.p) (-1) = some (.p (S1 o.rs)) := by
      have z := at_m1 (D.p (S1 opW) :: .p (S1 o.nm) :: (o.ar.map S1).map D.p) (.p (S1 gtW)) (.p (S1 o.rs))
      simpa using z
    unfold ixS
    simp only [seq_l, this]
  have i2 : ixS (.p (.lst (S1 opW :: S1 o.nm :: (o.ar.map S1 ++ [S1 gtW, S1 o.rs])))) (.p (.int (-2))) m = .ok (.p (S1 gtW)) m := by
    have : atI ((S1 opW :: S1 o.nm :: (o.ar.map S1 ++ [S1 gtW, S1 o.rs])).map D.p) (-2) = some (.p (S1 gtW)) := by
      have z := at_m2 (D.p (S1 opW) :: .p (S1 o.nm) :: (o.ar.map S1).map D.p) (.p (S1 gtW)) (.p (S1 o.rs))
      simpa using z
    unfold ixS
    simp only [seq_l, this]
  have sl : slS (.p (.lst (S1 opW :: S1 o.nm :: (o.ar.map S1 ++ [S1 gtW, S1 o.rs])))) (some 2) (some (-2)) m = .ok (.p (.lst (o.ar.map S1))) m := by
    show R.ok (D.p (.lst (cutD _ _ _))) m = _
    rw [cut_mid]
  generalize hW : (S1 opW :: S1 o.nm :: (o.ar.map S1 ++ [S1 gtW, S1 o.rs])) = W at ln' i1 i2 sl ⊢
  have j0 : ixS (.p (.lst W)) (.p (.int 0)) m = .ok (.p (S1 opW)) m := by rw [← hW]; exact ix_l0
  have j1 : ixS (.p (.lst W)) (.p (.int 1)) m = .ok (.p (S1 o.nm)) m := by rw [← hW]; exact ix_l1
  have mt : mkT [.p (S1 o.nm), .p (.tup (o.ar.map S1)), .p (S1 o.rs)] m = .ok (.p o.p) m := mkT_p (l := [S1 o.nm, .tup (o.ar.map S1), S1 o.rs])
  rw [B_operation_in_2, B_operation_in_0]
  simp [v_neg, j0, j1, i1, i2, sl, lit_op, lit_gt, co_neX, ln', mt]
  rfl
end
end Dn
end

/-! Dn, part ZH: a signature's text is read. -/
noncomputable section
namespace Dn
open PySem PySem.Spec PyProof.Rows L2
def ReadOk (cl : Cl) : Prop := ∀ (m : Mem) (g : Sg), g.ok → cl 29 [.p (.cls 0), .p (S1 g.text)] m = .ok (.p g.p) m
theorem sig_makeV {cl : Cl} {gv : Gv} (I : InitOk cl) (G : SigGv gv) {m : Mem} {i : Nat} {l : RL} {δ : Sl} {d1 d2 : D} {g : Sg} (hi : δ[i]? = some (some (.p (.cls 0)))) (e : denL cl gv l δ m = .ok [d1, d2] m) (hg : g.ok) (v1 : Vw m d1 (g.ss.map S1)) (v2 : Vw m d2 (g.ops.map Op.p)) : den cl gv (.frz (.makeV i 0 l)) δ m = .ok (.p g.p) m := by
  have h : den cl gv (.makeV i 0 l) δ m = den cl gv (.make 0 l) δ m := by
    show (match δ[i]?, gv.ini 0 with
      | some (some (.p (.cls c'))), some f => if c' = 0 then (denL cl gv l δ m).bind fun xs m => makeS cl 0 f xs m else .no
      | _, _ => .no) = _
    rw [hi, G.ini, v_make G.ini]
    rfl
  rw [v_frz, h, ← v_frz]
  exact sig_make I G e hg v1 v2
theorem no_sp {p : Tx} (h : ∀ c ∈ p, 33 ≤ c ∧ c ≤ 122) : 32 ∉ p := fun z => by have := h 32 z; omega
theorem sm_of {p : Tx} (h : ∀ c ∈ p, 33 ≤ c ∧ c ≤ 122) : Sm p := fun c hc => by have := h c hc; omega
section
variable {cl : Cl} {gv : Gv}
/-- the first line's turn -/
theorem read_head {m M : Mem} {g : Sg} (hg : g.ok) {x0 x1 x2 x3 x7 x8 : Option D} : denB cl gv B_Signature_read_11 [x0, x1, x2, x3, some (.ref m.length), some (.p (.int 0)), some (.p (S1 g.head)), x7, x8] M = .ok .nx [x0, x1, x2, some (.p (.lst (g.ss.map S1))), some (.ref m.length), some (.p (.int 0)), some (.p (S1 g.head)), some (.p (.lst (g.ws.map S1))), x8] M := by
  have sp := sp_jn (s := 32) (m := M) (ps := g.ws) (by decide) (by simp [Sg.ws]) (fun p hp => no_sp (hg.ws_nm p hp).2.2) (by have := hg.head_len; show g.head.length ≤ _; omega)
  have sp : bmtS .split (.p (S1 g.head)) [.p (S1 [32])] M = .ok (.p (.lst (g.ws.map S1))) M := sp
  have pre : bmPre .split (.p (S1 g.head)) M = true := rfl
  have i1 : cmpS .inn (.p (S1 [])) (.p (.lst (g.ws.map S1))) M = .ok (.p (.bl false)) M := by
    rw [in_l (fun s hs => sm_of (hg.ws_nm s hs).2.2) (fun c hc => by cases hc), decide_eq_false]
    intro z
    have := (hg.ws_nm [] z).1
    exact absurd this (by decide)
  have i0 : ixS (.p (.lst (g.ws.map S1))) (.p (.int 0)) M = .ok (.p (S1 sortsW)) M := ix_l0
  have ln : ¬ ((g.ws.map S1).length : Int) = 1 := by rw [List.length_map]; have := hg.ws_len.2; omega
  have sl : slS (.p (.lst (g.ws.map S1))) (some 1) none M = .ok (.p (.lst (g.ss.map S1))) M := slP_from (k := 1)
  generalize g.ws.map S1 = W at sp i1 i0 ln sl ⊢
  rw [B_Signature_read_11]
  simp only [b_cons', s_set', v_bmt, Dn.v_var, slot_, List.getElem?_cons_succ, List.getElem?_cons_zero, R.bind_ok, pre, if_true, l_cons, l_nil, v_cst, lit_sp, sp, toS_ok, List.set_cons_succ, List.set_cons_zero]
  rw [B_Signature_read_10]
  simp [lit_emp, lit_sorts, i1, i0, co_neX, ln]
  rw [B_Signature_read_8, B_Signature_read_3]
  simp [sl]
/-- an operation's line's turn -/
theorem read_op (O : OpInOk cl) {m : Mem} {ss : List Tx} (hs : ∀ s ∈ ss, IsNm s) {o : Op} (ho : o.ok ss) {l : List P} (hl : l.length < 16777216) {k : Nat} {x0 x1 x2 x3 x7 x8 : Option D} : denB cl gv B_Signature_read_11 [x0, x1, x2, x3, some (.ref m.length), some (.p (.int ((k + 1 : Nat) : Int))), some (.p (S1 o.line)), x7, x8] (m.new (.lst (l.map D.p))) = .ok .nx [x0, x1, x2, x3, some (.ref m.length), some (.p (.int ((k + 1 : Nat) : Int))), some (.p (S1 o.line)), some (.p (.lst (o.ws.map S1))), some (.p o.p)] (m.new (.lst ((l ++ [o.p]).map D.p))) := by
  have pra : bmPre .append (.ref m.length) (m.new (.lst (l.map D.p))) = true := by
    unfold bmPre
    simp only [Mem.get_last]
    rfl
  have ap : bmtS .append (.ref m.length) [.p o.p] (m.new (.lst (l.map D.p))) = .ok (.p .non) (m.new (.lst ((l ++ [o.p]).map D.p))) := by
    unfold bmtS appendS
    simp only [Mem.get_last]
    rw [if_pos (by rw [PySem.sizeLine_eq, List.length_map]; exact hl), Mem.put_last, List.map_append]
    rfl
  have tm : trimU (m.new (.lst (l.map D.p))) (.ok (.p .non) (m.new (.lst ((l ++ [o.p]).map D.p)))) = .ok (.p .non) (m.new (.lst ((l ++ [o.p]).map D.p))) := by
    have := trimU_put (m := m.new (.lst (l.map D.p))) (r := m.length) (o := .lst ((l ++ [o.p]).map D.p)) (d := .p .non) flat_map
    rwa [Mem.put_last] at this
  generalize m.new (.lst (l.map D.p)) = M at pra ap tm ⊢
  generalize m.new (.lst ((l ++ [o.p]).map D.p)) = M2 at ap tm ⊢
  have sp := sp_jn (s := 32) (m := M) (ps := o.ws) (by decide) (by simp [Op.ws]) (fun p hp => no_sp (Op.ws_nm hs ho p hp).2.2) (by have := Op.line_len hs ho; show o.line.length ≤ _; omega)
  have sp : bmtS .split (.p (S1 o.line)) [.p (S1 [32])] M = .ok (.p (.lst (o.ws.map S1))) M := sp
  have pre : bmPre .split (.p (S1 o.line)) M = true := rfl
  have i1 : cmpS .inn (.p (S1 [])) (.p (.lst (o.ws.map S1))) M = .ok (.p (.bl false)) M := by
    rw [in_l (fun s hs' => sm_of (Op.ws_nm hs ho s hs').2.2) (fun c hc => by cases hc), decide_eq_false]
    intro z
    have := (Op.ws_nm hs ho [] z).1
    exact absurd this (by decide)
  have op := O M ss o hs ho
  generalize o.ws.map S1 = W at sp i1 op ⊢
  have nz : ¬ ((k + 1 : Nat) : Int) = 0 := by omega
  generalize ((k + 1 : Nat) : Int) = kk at nz ⊢
  have isn : cmpO cl gv .isn (.p o.p) (.p .non) M = .ok (.p (.bl false)) M := rfl
  rw [B_Signature_read_11]
  simp only [b_cons', s_set', v_bmt, Dn.v_var, slot_, List.getElem?_cons_succ, List.getElem?_cons_zero, R.bind_ok, pre, if_true, l_cons, l_nil, v_cst, lit_sp, sp, toS_ok, List.set_cons_succ, List.set_cons_zero]
  rw [B_Signature_read_10]
  simp [lit_emp, i1, nz]
  rw [B_Signature_read_8]
  simp [nz]
  rw [B_Signature_read_7, B_Signature_read_6, B_Signature_read_4]
  simp only [b_cons', s_set', s_ite', s_ex', v_call, v_cmp, v_bmt, Dn.v_var, slot_, List.getElem?_cons_succ, List.getElem?_cons_zero, R.bind_ok, pra, if_true, l_cons, l_nil, v_cst, op, toS_ok, List.set_cons_succ, List.set_cons_zero, isn, asB_bl, Bool.false_eq_true, if_false, b_nil', ap, tm]
theorem read_loop (O : OpInOk cl) {m : Mem} {ss : List Tx} (hs : ∀ s ∈ ss, IsNm s) {t : Its} (ht : t.n = none) {x0 x1 x2 x3 : Option D} : ∀ (ops : List Op) (l : List P) (k : Nat) (x5 x6 x7 x8 : Option D), (∀ o ∈ ops, o.ok ss) → l.length + ops.length < 16777216 → ∃ y5 y6 y7 y8, forRun (bodyF cl gv (.tp (.cons (.nm 5) (.cons (.nm 6) .nil))) B_Signature_read_11) t (enumP (k + 1) (ops.map fun o => S1 o.line)) [x0, x1, x2, x3, some (.ref m.length), x5, x6, x7, x8] (m.new (.lst (l.map D.p))) = .ok .nx [x0, x1, x2, x3, some (.ref m.length), y5, y6, y7, y8] (m.new (.lst ((l ++ ops.map Op.p).map D.p)))
  | [], l, k, x5, x6, x7, x8, _, _ => ⟨x5, x6, x7, x8, by
    rw [List.map_nil, List.map_nil, List.append_nil]
    unfold enumP forRun
    rw [if_pos (by unfold Its.held; rw [ht]; trivial)]⟩
  | o :: ops, l, k, x5, x6, x7, x8, ho, hl => by
    have hl' : l.length + (ops.length + 1) < 16777216 := hl
    obtain ⟨y5, y6, y7, y8, ih⟩ := read_loop O hs ht (m := m) (x0 := x0) (x1 := x1) (x2 := x2) (x3 := x3) ops (l ++ [o.p]) (k + 1) (some (.p (.int ((k + 1 : Nat) : Int)))) (some (.p (S1 o.line))) (some (.p (.lst (o.ws.map S1)))) (some (.p o.p)) (fun q hq => ho q (List.mem_cons_of_mem _ hq)) (by rw [List.length_append]; show l.length + 1 + ops.length < _; omega)
    refine ⟨y5, y6, y7, y8, ?_⟩
    rw [List.map_cons]
    unfold enumP forRun
    rw [if_pos (by unfold Its.held; rw [ht]; trivial), bodyF_ (δ' := [x0, x1, x2, x3, some (.ref m.length), some (.p (.int ((k + 1 : Nat) : Int))), some (.p (S1 o.line)), x7, x8]) rfl, read_op O hs (ho o List.mem_cons_self) (by omega)]
    simp only
    rw [ih]
    simp
theorem cut_s1 (l : Tx) (x : Nat) : cutS (mk (l ++ [x])) (some (-1)) none = mk [x] := by
  rw [mk_cut]
  have : HT.sIx (l ++ [x]).length 0 (some (-1)) = l.length := by
    unfold HT.sIx
    simp only
    rw [if_pos (by omega), List.length_append, List.length_singleton]
    omega
  rw [this, HT.sIx_none, List.drop_left]
  simp
theorem text_last (g : Sg) : ∃ l, g.text = l ++ [10] := by
  have : ∀ ls : List Tx, ls ≠ [] → ∃ l, (ls.map (· ++ [10])).flatten = l ++ [10] := fun ls => by
    induction ls with
    | nil => intro h; exact absurd rfl h
    | cons p ls ih =>
      intro _
      cases ls with
      | nil => exact ⟨p, by simp⟩
      | cons q r =>
        obtain ⟨l, e⟩ := ih (by simp)
        refine ⟨p ++ [10] ++ l, ?_⟩
        rw [List.map_cons, List.flatten_cons, e]
        simp
  exact this g.lines (by simp [Sg.lines])
theorem read_1 (L : LinesOk cl) (O : OpInOk cl) (I : InitOk cl) (G : SigGv gv) {m : Mem} {g : Sg} (hg : g.ok) : runD cl gv D_Signature_read [.p (.cls 0), .p (S1 g.text)] m = .ok (.p g.p) m := by
  unfold D_Signature_read
  rw [runD_ok (np := 2) rfl]
  have ln := L m g hg
  have it : itEnum (.p (.lst (g.lines.map S1))) (m.new (.lst ([].map D.p))) = some ⟨enumP 0 (g.lines.map S1), none⟩ := rfl
  have e0 : enumP 0 (g.lines.map S1) = .p (.tup [.int ((0 : Nat) : Int), S1 g.head]) :: enumP (0 + 1) (g.ops.map fun o => S1 o.line) := by
    have : g.lines.map S1 = S1 g.head :: g.ops.map fun o => S1 o.line := by simp [Sg.lines, Function.comp_def]
    rw [this]
    rfl
  obtain ⟨y5, y6, y7, y8, lp⟩ := read_loop (gv := gv) O hg.sn (m := m) (t := ⟨enumP 0 (g.lines.map S1), none⟩) rfl (x0 := some (.p (.cls 0))) (x1 := some (.p (S1 g.text))) (x2 := some (.p (.lst (g.lines.map S1)))) (x3 := some (.p (.lst (g.ss.map S1)))) g.ops [] 0 (some (.p (.int 0))) (some (.p (S1 g.head))) (some (.p (.lst (g.ws.map S1)))) none hg.oo (by have := hg.o5; show 0 + g.ops.length < _; omega)
  rw [List.nil_append] at lp
  have l0 : mkL false [] m = .ok (.p (.lst [])) m := rfl
  have nw : mkL true [] m = .ok (.ref m.length) (m.new (.lst ([].map D.p))) := rfl
  have st : startD 9 [.p (.cls 0), .p (S1 g.text)] = [some (.p (.cls 0)), some (.p (S1 g.text)), none, none, none, none, none, none, none] := rfl
  have hd := read_head (cl := cl) (gv := gv) (m := m) (M := m.new (.lst ([].map D.p))) hg (x0 := some (.p (.cls 0))) (x1 := some (.p (S1 g.text))) (x2 := some (.p (.lst (g.lines.map S1)))) (x3 := some (.p (.lst []))) (x7 := none) (x8 := none)
  have fr : forRun (bodyF cl gv (.tp (.cons (.nm 5) (.cons (.nm 6) .nil))) B_Signature_read_11) ⟨enumP 0 (g.lines.map S1), none⟩ (enumP 0 (g.lines.map S1)) [some (.p (.cls 0)), some (.p (S1 g.text)), some (.p (.lst (g.lines.map S1))), some (.p (.lst [])), some (.ref m.length), none, none, none, none] (m.new (.lst ([].map D.p))) = .ok .nx [some (.p (.cls 0)), some (.p (S1 g.text)), some (.p (.lst (g.lines.map S1))), some (.p (.lst (g.ss.map S1))), some (.ref m.length), y5, y6, y7, y8] (m.new (.lst ((g.ops.map Op.p).map D.p))) := by
    conv => lhs; arg 3; rw [e0]
    unfold forRun
    rw [if_pos (show Its.held ⟨enumP 0 (g.lines.map S1), none⟩ (m.new (.lst ([].map D.p))) from trivial), bodyF_ (δ' := [some (.p (.cls 0)), some (.p (S1 g.text)), some (.p (.lst (g.lines.map S1))), some (.p (.lst [])), some (.ref m.length), some (.p (.int 0)), some (.p (S1 g.head)), none, none]) rfl, hd]
    simp only
    exact lp
  rw [B_Signature_read_13, B_Signature_read_12, st, b_cons', s_par']
  simp only [v_call, l_cons, l_nil, Dn.v_var, slot_, List.getElem?_cons_succ, List.getElem?_cons_zero, R.bind_ok, ln, v_lst, pl_nil, lnS_t, l0, nw, toS_ok, List.length_cons, List.length_nil, if_true, List.zip_cons_cons, List.zip_nil_left, List.zip_nil_right, List.foldl_cons, List.foldl_nil, List.set_cons_succ, List.set_cons_zero]
  rw [b_cons', s_forF]
  simp only [i_enum', Dn.v_var, slot_, List.getElem?_cons_succ, List.getElem?_cons_zero, R.bind_ok, it, oR_some, toS_ok]
  rw [fr]
  have v2 : Vw (m.new (.lst ((g.ops.map Op.p).map D.p))) (.ref m.length) (g.ops.map Op.p) := .r _ _ Mem.get_last
  have ta : trimR m (.ok (.p g.p) (m.new (.lst ((g.ops.map Op.p).map D.p)))) = .ok (.p g.p) m := trim_app
  generalize m.new (.lst ((g.ops.map Op.p).map D.p)) = M at v2 ta ⊢
  have smL : ∀ s ∈ g.lines, Sm s := fun s hs c hc => by have := (hg.line_ok s hs).2 c hc; omega
  have q1 : cmpO cl gv .eq (.p (.lst (g.lines.map S1))) (.p (.lst [])) M = .ok (.p (.bl false)) M := by
    rw [co_eq rfl]
    refine (k_eqSS (b := []) smL (fun s hs => by cases hs)).trans ?_
    rw [decide_eq_false (by simp [Sg.lines])]
  have q2 : slS (.p (S1 g.text)) (some (-1)) none M = .ok (.p (S1 [10])) M := by
    obtain ⟨l, e⟩ := text_last g
    show R.ok (D.p (.str (cutS (mk g.text) (some (-1)) none))) M = _
    rw [e, cut_s1]
    rfl
  have l1 : mkL false [] M = .ok (.p (.lst [])) M := rfl
  have mkv := sig_makeV (cl := cl) (gv := gv) (m := M) (i := 0) (l := .cons (.var 3) (.cons (.var 4) .nil)) (δ := [some (.p (.cls 0)), some (.p (S1 g.text)), some (.p (.lst (g.lines.map S1))), some (.p (.lst (g.ss.map S1))), some (.ref m.length), y5, y6, y7, y8]) I G rfl (by simp) hg (.l _) v2
  rw [B_Signature_read_2, B_Signature_read_0]
  simp only [b_cons', s_ite', s_ret', v_or, v_cmp, v_sl, v_neg, v_lst, l_nil, pl_nil, lnS_t, l1, v_cst, lit_nl, o_none', o_some', asI_, Dn.v_var, slot_, List.getElem?_cons_succ, List.getElem?_cons_zero, R.bind_ok, q1, q2, co_neX, asB_bl, decide_true, Bool.not_true, Bool.false_eq_true, if_false, toS_ok, b_nil', mkv, endS_rt]
  exact ta
end
theorem text_ok {p : Pg} {k : Nat} (hf : p.fd 32 = some D_Signature_text) (G : SigGv p.gv) : TextOk (callAt p (k + 1)) := fun m g h => by
  rw [callAt_ok hf]
  exact text_1 G h
theorem sigtext_ok {p : Pg} {k : Nat} (hf : p.fd 75 = some D__law_sig_text) : SigTextOk (callAt p (k + 1)) := fun m g h => by
  rw [callAt_ok hf]
  exact sigtext_1 h
theorem lines_ok {p : Pg} {k : Nat} (hf : p.fd 31 = some D_lines_of) : LinesOk (callAt p (k + 1)) := fun m g h => by
  rw [callAt_ok hf]
  exact lines_1 h
theorem opin_ok {p : Pg} {k : Nat} (hf : p.fd 30 = some D_operation_in) : OpInOk (callAt p (k + 1)) := fun m ss o h h' => by
  rw [callAt_ok hf]
  exact opin_1 h h'
theorem read_ok {p : Pg} {k : Nat} (H : InitPg p) (h30 : p.fd 30 = some D_operation_in) (h31 : p.fd 31 = some D_lines_of) (hf : p.fd 29 = some D_Signature_read) : ReadOk (callAt p (k + 4)) := fun m g h => by
  rw [callAt_ok hf]
  exact read_1 (lines_ok h31) (opin_ok h30) (init_ok H) H.G h
end Dn
end

noncomputable section
namespace Law
open Dn PySem PySem.Spec PyProof.Rows L2
/-! law -/
def B_law_v2_0 : RB := .cons (.ret (.and (.cmp .eq (.smeth 0 10 (.cons (.var 3) .nil)) (.var 4)) (.cmp .eq (.meth (.var 4) 9 .nil) (.var 3)))) .nil
def B_law_v2_1 : RB := .cons (.set 4 (.frz (.make 0 (.cons (.lst false (.cons (.cst (.str "s")) (.cons (.cst (.str "t")) .nil))) (.cons (.lst false (.cons (.tup (.cons (.cst (.str "f")) (.cons (.tup (.cons (.cst (.str "s")) (.cons (.cst (.str "t")) .nil))) (.cons (.cst (.str "s")) .nil)))) (.cons (.tup (.cons (.cst (.str "c")) (.cons (.tup .nil) (.cons (.cst (.str "t")) .nil)))) .nil))) .nil))))) B_law_v2_0
def B_law_v2_2 : RB := .cons (.set 3 (.cst (.str "sorts s t\nop f s t > s\nop c > t\n"))) B_law_v2_1
def B_law_v2_3 : RB := .cons (.ret (.cst (.bl false))) .nil
def B_law_v2_4 : RB := .cons (.ite (.or (.cmp .ne (.var 6) (.var 7)) (.cmp .ne (.smethK 29 0 10 (.cons (.var 8) .nil) [0, 1]) (.var 7))) B_law_v2_3 .nil) .nil
def B_law_v2_5 : RB := .cons (.ret (.cst (.bl false))) .nil
def B_law_v2_6 : RB := .cons (.ite (.not (.call 5 (.cons (.lst false (.cons (.meth (.var 7) 9 .nil) (.cons (.meth (.var 6) 9 .nil) (.cons (.meth (.var 6) 3 .nil) .nil)))) (.cons (.lst false (.cons (.var 8) (.cons (.var 8) (.cons (.ix (.var 5) (.cst (.int 1))) .nil)))) .nil)))) B_law_v2_5 .nil) B_law_v2_4
def B_law_v2_7 : RB := .cons (.set 6 (.smeth 0 10 (.cons (.var 8) .nil))) B_law_v2_6
def B_law_v2_8 : RB := .cons (.par [7, 8] (.cons (.call 13 (.cons (.var 5) .nil)) (.cons (.call 75 (.cons (.var 5) .nil)) .nil))) B_law_v2_7
def B_law_v2_9 : RB := .cons (.set 5 (.call 23 (.cons (.var 1) .nil))) B_law_v2_8
def B_law_v2_10 : RB := .cons (.forr (.nm 2) (.rng (.cst (.int 4))) B_law_v2_9) B_law_v2_2
def B_law_v2_11 : RB := .cons (.set 1 (.call 2 (.cons (.var 0) .nil))) B_law_v2_10
def D_law_v2 : FD := ⟨1, 9, [], false, B_law_v2_11⟩
end Law
end

namespace Law
open Dn PySem PySem.Spec PyProof.Rows L2
noncomputable section
def n7 : List Str := ["_law_script", "_law_bag_here", "_law_turn", "_law_plain", "_law_due", "_law_sig_here", "_law_late", "_law_made", "_law_shown"]
def p7 : List Str := ["_law_script"]
def n8 : List Str := ["self", "sorts", "operations", "name", "arguments", "result", "one", "sort"]
def p8 : List Str := ["self", "sorts", "operations"]
def n9 : List Str := ["self"]
def p9 : List Str := ["self"]
def n10 : List Str := ["self"]
def p10 : List Str := ["self"]
def n11 : List Str := ["self", "name"]
def p11 : List Str := ["self", "name"]
def n12 : List Str := ["self", "other"]
def p12 : List Str := ["self", "other"]
def n29 : List Str := ["cls", "text", "lines", "sorts", "operations", "at", "line", "words", "operation"]
def p29 : List Str := ["cls", "text"]
def n5 : List Str := ["_law_found", "_law_due", "_law_a", "_law_b"]
def p5 : List Str := ["_law_found", "_law_due"]
def n18 : List Str := ["self"]
def p18 : List Str := ["self"]
def n32 : List Str := ["self", "lines", "name", "arguments", "result", "line"]
def p32 : List Str := ["self"]
def n75 : List Str := ["_law_sig_here", "_law_lines", "_law_word", "_law_some", "_law_goal", "_law_line"]
def p75 : List Str := ["_law_sig_here"]
def n13 : List Str := ["_law_sig_here"]
def p13 : List Str := ["_law_sig_here"]
def n23 : List Str := ["_law_bag_here", "_law_found", "_law_word", "_law_heads", "_law_words_here", "_law_some", "_law_k"]
def p23 : List Str := ["_law_bag_here"]
def n2 : List Str := ["_law_script"]
def p2 : List Str := ["_law_script"]
def n24 : List Str := ["values", "at", "value"]
def p24 : List Str := ["values"]
def n25 : List Str := ["value", "sorts"]
def p25 : List Str := ["value", "sorts"]
def n26 : List Str := ["value"]
def p26 : List Str := ["value"]
def n1 : List Str := ["value", "letter"]
def p1 : List Str := ["value"]
def n30 : List Str := ["words"]
def p30 : List Str := ["words"]
def n31 : List Str := ["text"]
def p31 : List Str := ["text"]
def n4 : List Str := ["_law_bag_here", "_law_rows_z"]
def p4 : List Str := ["_law_bag_here", "_law_rows_z"]
def n3 : List Str := ["_law_bag_here", "_law_many", "_law_seed", "_law_step", "_law_cell", "_law_digit", "_law_small"]
def p3 : List Str := ["_law_bag_here", "_law_many"]
def n6 : List Str := ["_law_bag_here", "_law_many", "_law_letters", "_law_stem", "_law_at", "_law_first", "_law_k"]
def p6 : List Str := ["_law_bag_here", "_law_many"]
def n28 : List Str := ["values", "sorts", "value"]
def p28 : List Str := ["values", "sorts"]
def tab : Tab where
  cl := [(0, ⟨"Signature", [2, 1, 0], [(3, 18), (9, 32)], [], some 8, [(0, 9), (1, 10), (2, 11), (3, 12)], [(0, .int 5), (1, .int 3)], [(10, 29)]⟩)]
  fl := [(0, "by_name"), (1, "operation_list"), (2, "sort_list")]
  mn := [(3, "operations"), (9, "text"), (10, "read")]
  cn := [(0, "MOST_OPERATIONS"), (1, "MOST_SORTS")]
  fn := [(7, "law"), (5, "_law_same"), (75, "_law_sig_text"), (13, "_law_sig"), (23, "_law_any_sig"), (2, "_law_bag"), (24, "are_different"), (25, "is_operation"), (26, "is_listed"), (1, "is_name"), (30, "operation_in"), (31, "lines_of"), (4, "_law_of"), (3, "_law_pull"), (6, "_law_words"), (28, "are_sorts")]
  gl := [(0, "LETTERS"), (1, "MOST_LETTERS"), (2, "MOST_ARGUMENTS")]
  gv := [(0, .str "abcdefghijklmnopqrstuvwxyz"), (1, .int 6), (2, .int 3)]
  fd := [(7, D_law_v2), (8, D_Signature_dd__init_dd_), (9, D_Signature_dd__len_dd_), (10, D_Signature_dd__repr_dd_), (11, D_Signature_dd__contains_dd_), (12, D_Signature_dd__eq_dd_), (29, D_Signature_read), (5, D__law_same), (18, D_Signature_operations), (32, D_Signature_text), (75, D__law_sig_text), (13, D__law_sig), (23, D__law_any_sig), (2, D__law_bag), (24, D_are_different), (25, D_is_operation), (26, D_is_listed), (1, D_is_name), (30, D_operation_in), (31, D_lines_of), (4, D__law_of), (3, D__law_pull), (6, D__law_words), (28, D_are_sorts)]
  at_ := [(7, .glo "law"), (8, .meth "Signature" "__init__"), (9, .meth "Signature" "__len__"), (10, .meth "Signature" "__repr__"), (11, .meth "Signature" "__contains__"), (12, .meth "Signature" "__eq__"), (29, .cmet "Signature" "read"), (5, .glo "_law_same"), (18, .meth "Signature" "operations"), (32, .meth "Signature" "text"), (75, .glo "_law_sig_text"), (13, .glo "_law_sig"), (23, .glo "_law_any_sig"), (2, .glo "_law_bag"), (24, .glo "are_different"), (25, .glo "is_operation"), (26, .glo "is_listed"), (1, .glo "is_name"), (30, .glo "operation_in"), (31, .glo "lines_of"), (4, .glo "_law_of"), (3, .glo "_law_pull"), (6, .glo "_law_words"), (28, .glo "are_sorts")]
  kw := [(29, 1, ["text"], [0, 1])]
abbrev pg : Pg := tab.pg
abbrev prog : Program := PySem.Challenge.pw_keptlaws_k05_whole_texts_of_signatures
def top (i : Nat) : Stmt := prog.main.body.getD i (.Pass ⟨0, 0, 0, 0⟩)
theorem tab_ok : tab.ok = true := by kernel_rfl
def st7 : Stmt := (top 28)
def st8 : Stmt := ((clsBd (top 18)).getD 2 (.Pass ⟨0, 0, 0, 0⟩))
def st9 : Stmt := ((clsBd (top 18)).getD 12 (.Pass ⟨0, 0, 0, 0⟩))
def st10 : Stmt := ((clsBd (top 18)).getD 14 (.Pass ⟨0, 0, 0, 0⟩))
def st11 : Stmt := ((clsBd (top 18)).getD 11 (.Pass ⟨0, 0, 0, 0⟩))
def st12 : Stmt := ((clsBd (top 18)).getD 13 (.Pass ⟨0, 0, 0, 0⟩))
def st29 : Stmt := ((clsBd (top 18)).getD 10 (.Pass ⟨0, 0, 0, 0⟩))
def st5 : Stmt := (top 23)
def st18 : Stmt := ((clsBd (top 18)).getD 4 (.Pass ⟨0, 0, 0, 0⟩))
def st32 : Stmt := ((clsBd (top 18)).getD 9 (.Pass ⟨0, 0, 0, 0⟩))
def st75 : Stmt := (top 27)
def st13 : Stmt := (top 26)
def st23 : Stmt := (top 25)
def st2 : Stmt := (top 20)
def st24 : Stmt := (top 13)
def st25 : Stmt := (top 15)
def st26 : Stmt := (top 11)
def st1 : Stmt := (top 12)
def st30 : Stmt := (top 17)
def st31 : Stmt := (top 16)
def st4 : Stmt := (top 22)
def st3 : Stmt := (top 21)
def st6 : Stmt := (top 24)
def st28 : Stmt := (top 14)
theorem c7 : defB tab.tb D_law_v2 n7 p7 st7 = true := by kernel_rfl
theorem c8 : defB tab.tb D_Signature_dd__init_dd_ n8 p8 st8 = true := by kernel_rfl
theorem c9 : defB tab.tb D_Signature_dd__len_dd_ n9 p9 st9 = true := by kernel_rfl
theorem c10 : defB tab.tb D_Signature_dd__repr_dd_ n10 p10 st10 = true := by kernel_rfl
theorem c11 : defB tab.tb D_Signature_dd__contains_dd_ n11 p11 st11 = true := by kernel_rfl
theorem c12 : defB tab.tb D_Signature_dd__eq_dd_ n12 p12 st12 = true := by kernel_rfl
theorem c29 : defB tab.tb D_Signature_read n29 p29 st29 = true := by kernel_rfl
theorem c5 : defB tab.tb D__law_same n5 p5 st5 = true := by kernel_rfl
theorem c18 : defB tab.tb D_Signature_operations n18 p18 st18 = true := by kernel_rfl
theorem c32 : defB tab.tb D_Signature_text n32 p32 st32 = true := by kernel_rfl
theorem c75 : defB tab.tb D__law_sig_text n75 p75 st75 = true := by kernel_rfl
theorem c13 : defB tab.tb D__law_sig n13 p13 st13 = true := by kernel_rfl
theorem c23 : defB tab.tb D__law_any_sig n23 p23 st23 = true := by kernel_rfl
theorem c2 : defB tab.tb D__law_bag n2 p2 st2 = true := by kernel_rfl
theorem c24 : defB tab.tb D_are_different n24 p24 st24 = true := by kernel_rfl
theorem c25 : defB tab.tb D_is_operation n25 p25 st25 = true := by kernel_rfl
theorem c26 : defB tab.tb D_is_listed n26 p26 st26 = true := by kernel_rfl
theorem c1 : defB tab.tb D_is_name n1 p1 st1 = true := by kernel_rfl
theorem c30 : defB tab.tb D_operation_in n30 p30 st30 = true := by kernel_rfl
theorem c31 : defB tab.tb D_lines_of n31 p31 st31 = true := by kernel_rfl
theorem c4 : defB tab.tb D__law_of n4 p4 st4 = true := by kernel_rfl
theorem c3 : defB tab.tb D__law_pull n3 p3 st3 = true := by kernel_rfl
theorem c6 : defB tab.tb D__law_words n6 p6 st6 = true := by kernel_rfl
theorem c28 : defB tab.tb D_are_sorts n28 p28 st28 = true := by kernel_rfl
def h7 : He5.DefA := ⟨fun K => (At.ad K (.glo "law")), "law", "law", defArgs st7, defBody st7, defScope st7, [], []⟩
def h8 : He5.DefA := ⟨fun K => (At.ad K (.meth "Signature" "__init__")), "__init__", "Signature.__init__", defArgs st8, defBody st8, defScope st8, [], []⟩
def h9 : He5.DefA := ⟨fun K => (At.ad K (.meth "Signature" "__len__")), "__len__", "Signature.__len__", defArgs st9, defBody st9, defScope st9, [], []⟩
def h10 : He5.DefA := ⟨fun K => (At.ad K (.meth "Signature" "__repr__")), "__repr__", "Signature.__repr__", defArgs st10, defBody st10, defScope st10, [], []⟩
def h11 : He5.DefA := ⟨fun K => (At.ad K (.meth "Signature" "__contains__")), "__contains__", "Signature.__contains__", defArgs st11, defBody st11, defScope st11, [], []⟩
def h12 : He5.DefA := ⟨fun K => (At.ad K (.meth "Signature" "__eq__")), "__eq__", "Signature.__eq__", defArgs st12, defBody st12, defScope st12, [], []⟩
def h29 : He5.DefA := ⟨fun K => (At.ad K (.cmet "Signature" "read")), "read", "Signature.read", defArgs st29, defBody st29, defScope st29, [], []⟩
def h5 : He5.DefA := ⟨fun K => (At.ad K (.glo "_law_same")), "_law_same", "_law_same", defArgs st5, defBody st5, defScope st5, [], []⟩
def h18 : He5.DefA := ⟨fun K => (At.ad K (.meth "Signature" "operations")), "operations", "Signature.operations", defArgs st18, defBody st18, defScope st18, [], []⟩
def h32 : He5.DefA := ⟨fun K => (At.ad K (.meth "Signature" "text")), "text", "Signature.text", defArgs st32, defBody st32, defScope st32, [], []⟩
def h75 : He5.DefA := ⟨fun K => (At.ad K (.glo "_law_sig_text")), "_law_sig_text", "_law_sig_text", defArgs st75, defBody st75, defScope st75, [], []⟩
def h13 : He5.DefA := ⟨fun K => (At.ad K (.glo "_law_sig")), "_law_sig", "_law_sig", defArgs st13, defBody st13, defScope st13, [], []⟩
def h23 : He5.DefA := ⟨fun K => (At.ad K (.glo "_law_any_sig")), "_law_any_sig", "_law_any_sig", defArgs st23, defBody st23, defScope st23, [], []⟩
def h2 : He5.DefA := ⟨fun K => (At.ad K (.glo "_law_bag")), "_law_bag", "_law_bag", defArgs st2, defBody st2, defScope st2, [], []⟩
def h24 : He5.DefA := ⟨fun K => (At.ad K (.glo "are_different")), "are_different", "are_different", defArgs st24, defBody st24, defScope st24, [], []⟩
def h25 : He5.DefA := ⟨fun K => (At.ad K (.glo "is_operation")), "is_operation", "is_operation", defArgs st25, defBody st25, defScope st25, [], []⟩
def h26 : He5.DefA := ⟨fun K => (At.ad K (.glo "is_listed")), "is_listed", "is_listed", defArgs st26, defBody st26, defScope st26, [], []⟩
def h1 : He5.DefA := ⟨fun K => (At.ad K (.glo "is_name")), "is_name", "is_name", defArgs st1, defBody st1, defScope st1, [], []⟩
def h30 : He5.DefA := ⟨fun K => (At.ad K (.glo "operation_in")), "operation_in", "operation_in", defArgs st30, defBody st30, defScope st30, [], []⟩
def h31 : He5.DefA := ⟨fun K => (At.ad K (.glo "lines_of")), "lines_of", "lines_of", defArgs st31, defBody st31, defScope st31, [], []⟩
def h4 : He5.DefA := ⟨fun K => (At.ad K (.glo "_law_of")), "_law_of", "_law_of", defArgs st4, defBody st4, defScope st4, [], []⟩
def h3 : He5.DefA := ⟨fun K => (At.ad K (.glo "_law_pull")), "_law_pull", "_law_pull", defArgs st3, defBody st3, defScope st3, [], []⟩
def h6 : He5.DefA := ⟨fun K => (At.ad K (.glo "_law_words")), "_law_words", "_law_words", defArgs st6, defBody st6, defScope st6, [], []⟩
def h28 : He5.DefA := ⟨fun K => (At.ad K (.glo "are_sorts")), "are_sorts", "are_sorts", defArgs st28, defBody st28, defScope st28, [], []⟩
def fnl : List He5.DefA := [h7, h8, h9, h10, h11, h12, h29, h5, h18, h32, h75, h13, h23, h2, h24, h25, h26, h1, h30, h31, h4, h3, h6, h28]
abbrev R : PySem.W.OpenRow := PySem.W.OpenLaw.row PySem.Challenge.rw_keptlaws_k05_whole_texts_of_signatures
abbrev hk : PySem.W.Hook := hookH 6 fnl tab.facts
def ob (s : PySem.W.SharedT) : AlH := obsH 6 fnl tab.facts (HandSHeadRun.getT s)
theorem ob_eq (s : PySem.W.SharedT) : ob s = hk.obs s.abs := obsH_eq (HandSHeadRun.getT_eq s)
def loose : List Str := ["_wall", "LawError", "InvalidSignature", "InvalidText", "Missing", "UnknownName", "LETTERS", "MOST_LETTERS", "MOST_ARGUMENTS", "is_listed", "is_name", "are_different", "are_sorts", "is_operation", "lines_of", "operation_in", "Signature", "_law_bag", "_law_pull", "_law_of", "_law_same", "_law_words", "_law_any_sig", "_law_sig", "_law_sig_text"]
theorem run (w : World) : HandSHeadRun.RunEq R (PySem.W.view R.prog [28]) hk ob 4880 loose w := by
  intro os
  kernel_rfl
section
variable {w : World} {K : PySem.W.Frag} {h : Heap} {mg : Str → Option Value}
theorem f7 (c : He5.SaysA [] fnl K) : ∃ fd, FnK (tab.gn K) tab.tb pg K 7 D_law_v2 (tab.ad K 7) fd p7 ∧ ∀ (s : Shared) (u : Value), BindsTo s fd ⟨[u], []⟩ [(("_law_script" : Str), u)] := by
  obtain ⟨fd, F⟩ := c.def_ 0 (d := h7) rfl
  have bb : ∀ (s : Shared) (u : Value), BindsTo s fd ⟨[u], []⟩ [(("_law_script" : Str), u)] := fun s u => FunD.bindsA (ps := p7) F (fun _ _ _ _ _ _ us hl => match us, hl with | [_], _ => rfl) s [u] rfl
  refine ⟨fd, And.intro (mk_fn (N := n7) (st := st7) (d := D_law_v2) F c7 (FunD.bindsN F fun _ _ _ _ _ _ us hl => match us, hl with | [_], _ => rfl) (kw_all (t := tab) fun q hq e => ?_)) bb⟩
  obtain ⟨oc, od, dV, kV, doc, pm, an, cdv, ct, osl, rfl, lk, hcd, hD, hK⟩ := F.ex
  have dv : dV = .none := by
    rcases hD with ⟨_, z⟩ | ⟨z, _⟩
    · exact z
    · exact absurd rfl z
  subst dv
  simp only [tab, List.mem_cons, List.not_mem_nil, or_false] at hq
  subst hq
  · exact absurd e (by decide)
theorem f8 (c : He5.SaysA [] fnl K) : ∃ fd, FnK (tab.gn K) tab.tb pg K 8 D_Signature_dd__init_dd_ (tab.ad K 8) fd p8 := by
  obtain ⟨fd, F⟩ := c.def_ 1 (d := h8) rfl
  refine ⟨fd, mk_fn (N := n8) (st := st8) (d := D_Signature_dd__init_dd_) F c8 (FunD.bindsN F fun _ _ _ _ _ _ us hl => match us, hl with | [_, _, _], _ => rfl) (kw_all (t := tab) fun q hq e => ?_)⟩
  obtain ⟨oc, od, dV, kV, doc, pm, an, cdv, ct, osl, rfl, lk, hcd, hD, hK⟩ := F.ex
  have dv : dV = .none := by
    rcases hD with ⟨_, z⟩ | ⟨z, _⟩
    · exact z
    · exact absurd rfl z
  subst dv
  simp only [tab, List.mem_cons, List.not_mem_nil, or_false] at hq
  subst hq
  · exact absurd e (by decide)
theorem f9 (c : He5.SaysA [] fnl K) : ∃ fd, FnK (tab.gn K) tab.tb pg K 9 D_Signature_dd__len_dd_ (tab.ad K 9) fd p9 := by
  obtain ⟨fd, F⟩ := c.def_ 2 (d := h9) rfl
  refine ⟨fd, mk_fn (N := n9) (st := st9) (d := D_Signature_dd__len_dd_) F c9 (FunD.bindsN F fun _ _ _ _ _ _ us hl => match us, hl with | [_], _ => rfl) (kw_all (t := tab) fun q hq e => ?_)⟩
  obtain ⟨oc, od, dV, kV, doc, pm, an, cdv, ct, osl, rfl, lk, hcd, hD, hK⟩ := F.ex
  have dv : dV = .none := by
    rcases hD with ⟨_, z⟩ | ⟨z, _⟩
    · exact z
    · exact absurd rfl z
  subst dv
  simp only [tab, List.mem_cons, List.not_mem_nil, or_false] at hq
  subst hq
  · exact absurd e (by decide)
theorem f10 (c : He5.SaysA [] fnl K) : ∃ fd, FnK (tab.gn K) tab.tb pg K 10 D_Signature_dd__repr_dd_ (tab.ad K 10) fd p10 := by
  obtain ⟨fd, F⟩ := c.def_ 3 (d := h10) rfl
  refine ⟨fd, mk_fn (N := n10) (st := st10) (d := D_Signature_dd__repr_dd_) F c10 (FunD.bindsN F fun _ _ _ _ _ _ us hl => match us, hl with | [_], _ => rfl) (kw_all (t := tab) fun q hq e => ?_)⟩
  obtain ⟨oc, od, dV, kV, doc, pm, an, cdv, ct, osl, rfl, lk, hcd, hD, hK⟩ := F.ex
  have dv : dV = .none := by
    rcases hD with ⟨_, z⟩ | ⟨z, _⟩
    · exact z
    · exact absurd rfl z
  subst dv
  simp only [tab, List.mem_cons, List.not_mem_nil, or_false] at hq
  subst hq
  · exact absurd e (by decide)
theorem f11 (c : He5.SaysA [] fnl K) : ∃ fd, FnK (tab.gn K) tab.tb pg K 11 D_Signature_dd__contains_dd_ (tab.ad K 11) fd p11 := by
  obtain ⟨fd, F⟩ := c.def_ 4 (d := h11) rfl
  refine ⟨fd, mk_fn (N := n11) (st := st11) (d := D_Signature_dd__contains_dd_) F c11 (FunD.bindsN F fun _ _ _ _ _ _ us hl => match us, hl with | [_, _], _ => rfl) (kw_all (t := tab) fun q hq e => ?_)⟩
  obtain ⟨oc, od, dV, kV, doc, pm, an, cdv, ct, osl, rfl, lk, hcd, hD, hK⟩ := F.ex
  have dv : dV = .none := by
    rcases hD with ⟨_, z⟩ | ⟨z, _⟩
    · exact z
    · exact absurd rfl z
  subst dv
  simp only [tab, List.mem_cons, List.not_mem_nil, or_false] at hq
  subst hq
  · exact absurd e (by decide)
theorem f12 (c : He5.SaysA [] fnl K) : ∃ fd, FnK (tab.gn K) tab.tb pg K 12 D_Signature_dd__eq_dd_ (tab.ad K 12) fd p12 := by
  obtain ⟨fd, F⟩ := c.def_ 5 (d := h12) rfl
  refine ⟨fd, mk_fn (N := n12) (st := st12) (d := D_Signature_dd__eq_dd_) F c12 (FunD.bindsN F fun _ _ _ _ _ _ us hl => match us, hl with | [_, _], _ => rfl) (kw_all (t := tab) fun q hq e => ?_)⟩
  obtain ⟨oc, od, dV, kV, doc, pm, an, cdv, ct, osl, rfl, lk, hcd, hD, hK⟩ := F.ex
  have dv : dV = .none := by
    rcases hD with ⟨_, z⟩ | ⟨z, _⟩
    · exact z
    · exact absurd rfl z
  subst dv
  simp only [tab, List.mem_cons, List.not_mem_nil, or_false] at hq
  subst hq
  · exact absurd e (by decide)
theorem f29 (c : He5.SaysA [] fnl K) : ∃ fd, FnK (tab.gn K) tab.tb pg K 29 D_Signature_read (tab.ad K 29) fd p29 := by
  obtain ⟨fd, F⟩ := c.def_ 6 (d := h29) rfl
  refine ⟨fd, mk_fn (N := n29) (st := st29) (d := D_Signature_read) F c29 (FunD.bindsN F fun _ _ _ _ _ _ us hl => match us, hl with | [_, _], _ => rfl) (kw_all (t := tab) fun q hq e => ?_)⟩
  obtain ⟨oc, od, dV, kV, doc, pm, an, cdv, ct, osl, rfl, lk, hcd, hD, hK⟩ := F.ex
  have dv : dV = .none := by
    rcases hD with ⟨_, z⟩ | ⟨z, _⟩
    · exact z
    · exact absurd rfl z
  subst dv
  simp only [tab, List.mem_cons, List.not_mem_nil, or_false] at hq
  subst hq
  · exact ⟨rfl, by decide, kbn_of fun us ws h1 h2 => match us, ws, h1, h2 with | [_], [_], _, _ => rfl⟩
theorem f5 (c : He5.SaysA [] fnl K) : ∃ fd, FnK (tab.gn K) tab.tb pg K 5 D__law_same (tab.ad K 5) fd p5 := by
  obtain ⟨fd, F⟩ := c.def_ 7 (d := h5) rfl
  refine ⟨fd, mk_fn (N := n5) (st := st5) (d := D__law_same) F c5 (FunD.bindsN F fun _ _ _ _ _ _ us hl => match us, hl with | [_, _], _ => rfl) (kw_all (t := tab) fun q hq e => ?_)⟩
  obtain ⟨oc, od, dV, kV, doc, pm, an, cdv, ct, osl, rfl, lk, hcd, hD, hK⟩ := F.ex
  have dv : dV = .none := by
    rcases hD with ⟨_, z⟩ | ⟨z, _⟩
    · exact z
    · exact absurd rfl z
  subst dv
  simp only [tab, List.mem_cons, List.not_mem_nil, or_false] at hq
  subst hq
  · exact absurd e (by decide)
theorem f18 (c : He5.SaysA [] fnl K) : ∃ fd, FnK (tab.gn K) tab.tb pg K 18 D_Signature_operations (tab.ad K 18) fd p18 := by
  obtain ⟨fd, F⟩ := c.def_ 8 (d := h18) rfl
  refine ⟨fd, mk_fn (N := n18) (st := st18) (d := D_Signature_operations) F c18 (FunD.bindsN F fun _ _ _ _ _ _ us hl => match us, hl with | [_], _ => rfl) (kw_all (t := tab) fun q hq e => ?_)⟩
  obtain ⟨oc, od, dV, kV, doc, pm, an, cdv, ct, osl, rfl, lk, hcd, hD, hK⟩ := F.ex
  have dv : dV = .none := by
    rcases hD with ⟨_, z⟩ | ⟨z, _⟩
    · exact z
    · exact absurd rfl z
  subst dv
  simp only [tab, List.mem_cons, List.not_mem_nil, or_false] at hq
  subst hq
  · exact absurd e (by decide)
theorem f32 (c : He5.SaysA [] fnl K) : ∃ fd, FnK (tab.gn K) tab.tb pg K 32 D_Signature_text (tab.ad K 32) fd p32 := by
  obtain ⟨fd, F⟩ := c.def_ 9 (d := h32) rfl
  refine ⟨fd, mk_fn (N := n32) (st := st32) (d := D_Signature_text) F c32 (FunD.bindsN F fun _ _ _ _ _ _ us hl => match us, hl with | [_], _ => rfl) (kw_all (t := tab) fun q hq e => ?_)⟩
  obtain ⟨oc, od, dV, kV, doc, pm, an, cdv, ct, osl, rfl, lk, hcd, hD, hK⟩ := F.ex
  have dv : dV = .none := by
    rcases hD with ⟨_, z⟩ | ⟨z, _⟩
    · exact z
    · exact absurd rfl z
  subst dv
  simp only [tab, List.mem_cons, List.not_mem_nil, or_false] at hq
  subst hq
  · exact absurd e (by decide)
theorem f75 (c : He5.SaysA [] fnl K) : ∃ fd, FnK (tab.gn K) tab.tb pg K 75 D__law_sig_text (tab.ad K 75) fd p75 := by
  obtain ⟨fd, F⟩ := c.def_ 10 (d := h75) rfl
  refine ⟨fd, mk_fn (N := n75) (st := st75) (d := D__law_sig_text) F c75 (FunD.bindsN F fun _ _ _ _ _ _ us hl => match us, hl with | [_], _ => rfl) (kw_all (t := tab) fun q hq e => ?_)⟩
  obtain ⟨oc, od, dV, kV, doc, pm, an, cdv, ct, osl, rfl, lk, hcd, hD, hK⟩ := F.ex
  have dv : dV = .none := by
    rcases hD with ⟨_, z⟩ | ⟨z, _⟩
    · exact z
    · exact absurd rfl z
  subst dv
  simp only [tab, List.mem_cons, List.not_mem_nil, or_false] at hq
  subst hq
  · exact absurd e (by decide)
theorem f13 (c : He5.SaysA [] fnl K) : ∃ fd, FnK (tab.gn K) tab.tb pg K 13 D__law_sig (tab.ad K 13) fd p13 := by
  obtain ⟨fd, F⟩ := c.def_ 11 (d := h13) rfl
  refine ⟨fd, mk_fn (N := n13) (st := st13) (d := D__law_sig) F c13 (FunD.bindsN F fun _ _ _ _ _ _ us hl => match us, hl with | [_], _ => rfl) (kw_all (t := tab) fun q hq e => ?_)⟩
  obtain ⟨oc, od, dV, kV, doc, pm, an, cdv, ct, osl, rfl, lk, hcd, hD, hK⟩ := F.ex
  have dv : dV = .none := by
    rcases hD with ⟨_, z⟩ | ⟨z, _⟩
    · exact z
    · exact absurd rfl z
  subst dv
  simp only [tab, List.mem_cons, List.not_mem_nil, or_false] at hq
  subst hq
  · exact absurd e (by decide)
theorem f23 (c : He5.SaysA [] fnl K) : ∃ fd, FnK (tab.gn K) tab.tb pg K 23 D__law_any_sig (tab.ad K 23) fd p23 := by
  obtain ⟨fd, F⟩ := c.def_ 12 (d := h23) rfl
  refine ⟨fd, mk_fn (N := n23) (st := st23) (d := D__law_any_sig) F c23 (FunD.bindsN F fun _ _ _ _ _ _ us hl => match us, hl with | [_], _ => rfl) (kw_all (t := tab) fun q hq e => ?_)⟩
  obtain ⟨oc, od, dV, kV, doc, pm, an, cdv, ct, osl, rfl, lk, hcd, hD, hK⟩ := F.ex
  have dv : dV = .none := by
    rcases hD with ⟨_, z⟩ | ⟨z, _⟩
    · exact z
    · exact absurd rfl z
  subst dv
  simp only [tab, List.mem_cons, List.not_mem_nil, or_false] at hq
  subst hq
  · exact absurd e (by decide)
theorem f2 (c : He5.SaysA [] fnl K) : ∃ fd, FnK (tab.gn K) tab.tb pg K 2 D__law_bag (tab.ad K 2) fd p2 := by
  obtain ⟨fd, F⟩ := c.def_ 13 (d := h2) rfl
  refine ⟨fd, mk_fn (N := n2) (st := st2) (d := D__law_bag) F c2 (FunD.bindsN F fun _ _ _ _ _ _ us hl => match us, hl with | [_], _ => rfl) (kw_all (t := tab) fun q hq e => ?_)⟩
  obtain ⟨oc, od, dV, kV, doc, pm, an, cdv, ct, osl, rfl, lk, hcd, hD, hK⟩ := F.ex
  have dv : dV = .none := by
    rcases hD with ⟨_, z⟩ | ⟨z, _⟩
    · exact z
    · exact absurd rfl z
  subst dv
  simp only [tab, List.mem_cons, List.not_mem_nil, or_false] at hq
  subst hq
  · exact absurd e (by decide)
theorem f24 (c : He5.SaysA [] fnl K) : ∃ fd, FnK (tab.gn K) tab.tb pg K 24 D_are_different (tab.ad K 24) fd p24 := by
  obtain ⟨fd, F⟩ := c.def_ 14 (d := h24) rfl
  refine ⟨fd, mk_fn (N := n24) (st := st24) (d := D_are_different) F c24 (FunD.bindsN F fun _ _ _ _ _ _ us hl => match us, hl with | [_], _ => rfl) (kw_all (t := tab) fun q hq e => ?_)⟩
  obtain ⟨oc, od, dV, kV, doc, pm, an, cdv, ct, osl, rfl, lk, hcd, hD, hK⟩ := F.ex
  have dv : dV = .none := by
    rcases hD with ⟨_, z⟩ | ⟨z, _⟩
    · exact z
    · exact absurd rfl z
  subst dv
  simp only [tab, List.mem_cons, List.not_mem_nil, or_false] at hq
  subst hq
  · exact absurd e (by decide)
theorem f25 (c : He5.SaysA [] fnl K) : ∃ fd, FnK (tab.gn K) tab.tb pg K 25 D_is_operation (tab.ad K 25) fd p25 := by
  obtain ⟨fd, F⟩ := c.def_ 15 (d := h25) rfl
  refine ⟨fd, mk_fn (N := n25) (st := st25) (d := D_is_operation) F c25 (FunD.bindsN F fun _ _ _ _ _ _ us hl => match us, hl with | [_, _], _ => rfl) (kw_all (t := tab) fun q hq e => ?_)⟩
  obtain ⟨oc, od, dV, kV, doc, pm, an, cdv, ct, osl, rfl, lk, hcd, hD, hK⟩ := F.ex
  have dv : dV = .none := by
    rcases hD with ⟨_, z⟩ | ⟨z, _⟩
    · exact z
    · exact absurd rfl z
  subst dv
  simp only [tab, List.mem_cons, List.not_mem_nil, or_false] at hq
  subst hq
  · exact absurd e (by decide)
theorem f26 (c : He5.SaysA [] fnl K) : ∃ fd, FnK (tab.gn K) tab.tb pg K 26 D_is_listed (tab.ad K 26) fd p26 := by
  obtain ⟨fd, F⟩ := c.def_ 16 (d := h26) rfl
  refine ⟨fd, mk_fn (N := n26) (st := st26) (d := D_is_listed) F c26 (FunD.bindsN F fun _ _ _ _ _ _ us hl => match us, hl with | [_], _ => rfl) (kw_all (t := tab) fun q hq e => ?_)⟩
  obtain ⟨oc, od, dV, kV, doc, pm, an, cdv, ct, osl, rfl, lk, hcd, hD, hK⟩ := F.ex
  have dv : dV = .none := by
    rcases hD with ⟨_, z⟩ | ⟨z, _⟩
    · exact z
    · exact absurd rfl z
  subst dv
  simp only [tab, List.mem_cons, List.not_mem_nil, or_false] at hq
  subst hq
  · exact absurd e (by decide)
theorem f1 (c : He5.SaysA [] fnl K) : ∃ fd, FnK (tab.gn K) tab.tb pg K 1 D_is_name (tab.ad K 1) fd p1 := by
  obtain ⟨fd, F⟩ := c.def_ 17 (d := h1) rfl
  refine ⟨fd, mk_fn (N := n1) (st := st1) (d := D_is_name) F c1 (FunD.bindsN F fun _ _ _ _ _ _ us hl => match us, hl with | [_], _ => rfl) (kw_all (t := tab) fun q hq e => ?_)⟩
  obtain ⟨oc, od, dV, kV, doc, pm, an, cdv, ct, osl, rfl, lk, hcd, hD, hK⟩ := F.ex
  have dv : dV = .none := by
    rcases hD with ⟨_, z⟩ | ⟨z, _⟩
    · exact z
    · exact absurd rfl z
  subst dv
  simp only [tab, List.mem_cons, List.not_mem_nil, or_false] at hq
  subst hq
  · exact absurd e (by decide)
theorem f30 (c : He5.SaysA [] fnl K) : ∃ fd, FnK (tab.gn K) tab.tb pg K 30 D_operation_in (tab.ad K 30) fd p30 := by
  obtain ⟨fd, F⟩ := c.def_ 18 (d := h30) rfl
  refine ⟨fd, mk_fn (N := n30) (st := st30) (d := D_operation_in) F c30 (FunD.bindsN F fun _ _ _ _ _ _ us hl => match us, hl with | [_], _ => rfl) (kw_all (t := tab) fun q hq e => ?_)⟩
  obtain ⟨oc, od, dV, kV, doc, pm, an, cdv, ct, osl, rfl, lk, hcd, hD, hK⟩ := F.ex
  have dv : dV = .none := by
    rcases hD with ⟨_, z⟩ | ⟨z, _⟩
    · exact z
    · exact absurd rfl z
  subst dv
  simp only [tab, List.mem_cons, List.not_mem_nil, or_false] at hq
  subst hq
  · exact absurd e (by decide)
theorem f31 (c : He5.SaysA [] fnl K) : ∃ fd, FnK (tab.gn K) tab.tb pg K 31 D_lines_of (tab.ad K 31) fd p31 := by
  obtain ⟨fd, F⟩ := c.def_ 19 (d := h31) rfl
  refine ⟨fd, mk_fn (N := n31) (st := st31) (d := D_lines_of) F c31 (FunD.bindsN F fun _ _ _ _ _ _ us hl => match us, hl with | [_], _ => rfl) (kw_all (t := tab) fun q hq e => ?_)⟩
  obtain ⟨oc, od, dV, kV, doc, pm, an, cdv, ct, osl, rfl, lk, hcd, hD, hK⟩ := F.ex
  have dv : dV = .none := by
    rcases hD with ⟨_, z⟩ | ⟨z, _⟩
    · exact z
    · exact absurd rfl z
  subst dv
  simp only [tab, List.mem_cons, List.not_mem_nil, or_false] at hq
  subst hq
  · exact absurd e (by decide)
theorem f4 (c : He5.SaysA [] fnl K) : ∃ fd, FnK (tab.gn K) tab.tb pg K 4 D__law_of (tab.ad K 4) fd p4 := by
  obtain ⟨fd, F⟩ := c.def_ 20 (d := h4) rfl
  refine ⟨fd, mk_fn (N := n4) (st := st4) (d := D__law_of) F c4 (FunD.bindsN F fun _ _ _ _ _ _ us hl => match us, hl with | [_, _], _ => rfl) (kw_all (t := tab) fun q hq e => ?_)⟩
  obtain ⟨oc, od, dV, kV, doc, pm, an, cdv, ct, osl, rfl, lk, hcd, hD, hK⟩ := F.ex
  have dv : dV = .none := by
    rcases hD with ⟨_, z⟩ | ⟨z, _⟩
    · exact z
    · exact absurd rfl z
  subst dv
  simp only [tab, List.mem_cons, List.not_mem_nil, or_false] at hq
  subst hq
  · exact absurd e (by decide)
theorem f3 (c : He5.SaysA [] fnl K) : ∃ fd, FnK (tab.gn K) tab.tb pg K 3 D__law_pull (tab.ad K 3) fd p3 := by
  obtain ⟨fd, F⟩ := c.def_ 21 (d := h3) rfl
  refine ⟨fd, mk_fn (N := n3) (st := st3) (d := D__law_pull) F c3 (FunD.bindsN F fun _ _ _ _ _ _ us hl => match us, hl with | [_, _], _ => rfl) (kw_all (t := tab) fun q hq e => ?_)⟩
  obtain ⟨oc, od, dV, kV, doc, pm, an, cdv, ct, osl, rfl, lk, hcd, hD, hK⟩ := F.ex
  have dv : dV = .none := by
    rcases hD with ⟨_, z⟩ | ⟨z, _⟩
    · exact z
    · exact absurd rfl z
  subst dv
  simp only [tab, List.mem_cons, List.not_mem_nil, or_false] at hq
  subst hq
  · exact absurd e (by decide)
theorem f6 (c : He5.SaysA [] fnl K) : ∃ fd, FnK (tab.gn K) tab.tb pg K 6 D__law_words (tab.ad K 6) fd p6 := by
  obtain ⟨fd, F⟩ := c.def_ 22 (d := h6) rfl
  refine ⟨fd, mk_fn (N := n6) (st := st6) (d := D__law_words) F c6 (FunD.bindsN F fun _ _ _ _ _ _ us hl => match us, hl with | [_, _], _ => rfl) (kw_all (t := tab) fun q hq e => ?_)⟩
  obtain ⟨oc, od, dV, kV, doc, pm, an, cdv, ct, osl, rfl, lk, hcd, hD, hK⟩ := F.ex
  have dv : dV = .none := by
    rcases hD with ⟨_, z⟩ | ⟨z, _⟩
    · exact z
    · exact absurd rfl z
  subst dv
  simp only [tab, List.mem_cons, List.not_mem_nil, or_false] at hq
  subst hq
  · exact absurd e (by decide)
theorem f28 (c : He5.SaysA [] fnl K) : ∃ fd, FnK (tab.gn K) tab.tb pg K 28 D_are_sorts (tab.ad K 28) fd p28 := by
  obtain ⟨fd, F⟩ := c.def_ 23 (d := h28) rfl
  refine ⟨fd, mk_fn (N := n28) (st := st28) (d := D_are_sorts) F c28 (FunD.bindsN F fun _ _ _ _ _ _ us hl => match us, hl with | [_, _], _ => rfl) (kw_all (t := tab) fun q hq e => ?_)⟩
  obtain ⟨oc, od, dV, kV, doc, pm, an, cdv, ct, osl, rfl, lk, hcd, hD, hK⟩ := F.ex
  have dv : dV = .none := by
    rcases hD with ⟨_, z⟩ | ⟨z, _⟩
    · exact z
    · exact absurd rfl z
  subst dv
  simp only [tab, List.mem_cons, List.not_mem_nil, or_false] at hq
  subst hq
  · exact absurd e (by decide)
theorem fds (c : He5.SaysA [] fnl K) : ∀ f d, tab.fd.lookup f = some d → ∃ fd ps, FnK (tab.gn K) tab.tb pg K f d (tab.ad K f) fd ps := by
  intro f d hx
  have hx := mem_lk hx
  simp only [tab, List.mem_cons, List.not_mem_nil, or_false, Prod.mk.injEq] at hx
  rcases hx with ⟨rfl, rfl⟩ | ⟨rfl, rfl⟩ | ⟨rfl, rfl⟩ | ⟨rfl, rfl⟩ | ⟨rfl, rfl⟩ | ⟨rfl, rfl⟩ | ⟨rfl, rfl⟩ | ⟨rfl, rfl⟩ | ⟨rfl, rfl⟩ | ⟨rfl, rfl⟩ | ⟨rfl, rfl⟩ | ⟨rfl, rfl⟩ | ⟨rfl, rfl⟩ | ⟨rfl, rfl⟩ | ⟨rfl, rfl⟩ | ⟨rfl, rfl⟩ | ⟨rfl, rfl⟩ | ⟨rfl, rfl⟩ | ⟨rfl, rfl⟩ | ⟨rfl, rfl⟩ | ⟨rfl, rfl⟩ | ⟨rfl, rfl⟩ | ⟨rfl, rfl⟩ | ⟨rfl, rfl⟩
  · obtain ⟨fd, k, _⟩ := f7 c
    exact ⟨fd, _, k⟩
  · obtain ⟨fd, k⟩ := f8 c
    exact ⟨fd, _, k⟩
  · obtain ⟨fd, k⟩ := f9 c
    exact ⟨fd, _, k⟩
  · obtain ⟨fd, k⟩ := f10 c
    exact ⟨fd, _, k⟩
  · obtain ⟨fd, k⟩ := f11 c
    exact ⟨fd, _, k⟩
  · obtain ⟨fd, k⟩ := f12 c
    exact ⟨fd, _, k⟩
  · obtain ⟨fd, k⟩ := f29 c
    exact ⟨fd, _, k⟩
  · obtain ⟨fd, k⟩ := f5 c
    exact ⟨fd, _, k⟩
  · obtain ⟨fd, k⟩ := f18 c
    exact ⟨fd, _, k⟩
  · obtain ⟨fd, k⟩ := f32 c
    exact ⟨fd, _, k⟩
  · obtain ⟨fd, k⟩ := f75 c
    exact ⟨fd, _, k⟩
  · obtain ⟨fd, k⟩ := f13 c
    exact ⟨fd, _, k⟩
  · obtain ⟨fd, k⟩ := f23 c
    exact ⟨fd, _, k⟩
  · obtain ⟨fd, k⟩ := f2 c
    exact ⟨fd, _, k⟩
  · obtain ⟨fd, k⟩ := f24 c
    exact ⟨fd, _, k⟩
  · obtain ⟨fd, k⟩ := f25 c
    exact ⟨fd, _, k⟩
  · obtain ⟨fd, k⟩ := f26 c
    exact ⟨fd, _, k⟩
  · obtain ⟨fd, k⟩ := f1 c
    exact ⟨fd, _, k⟩
  · obtain ⟨fd, k⟩ := f30 c
    exact ⟨fd, _, k⟩
  · obtain ⟨fd, k⟩ := f31 c
    exact ⟨fd, _, k⟩
  · obtain ⟨fd, k⟩ := f4 c
    exact ⟨fd, _, k⟩
  · obtain ⟨fd, k⟩ := f3 c
    exact ⟨fd, _, k⟩
  · obtain ⟨fd, k⟩ := f6 c
    exact ⟨fd, _, k⟩
  · obtain ⟨fd, k⟩ := f28 c
    exact ⟨fd, _, k⟩
end
theorem law_ok (lv : Nat) (hr : Room (3 * lv + 2) callerA) (pure_ : ∀ ns : List Int, ns.length ≤ 63 → (∀ k ∈ ns, Builtin.Int.intBits k ≤ 1048576) → ∃ m, callAt pg lv 7 [.p (.scr ns)] [] = .ok (.p (.bl true)) m) : PySem.Challenge.rw_keptlaws_k05_whole_texts_of_signatures.Holds := by
  open PySem.W PySem.Calls in
  w_on; o_law
  refine HandSHeadRun.head_any (r := PySem.W.OpenLaw.row PySem.Challenge.rw_keptlaws_k05_whole_texts_of_signatures) (q := PySem.W.view (PySem.W.OpenLaw.row PySem.Challenge.rw_keptlaws_k05_whole_texts_of_signatures).prog [28]) (H := hk) (ob := ob) (M := 4880) (loose := loose) (d := HandSHeadRun.topDef (PySem.W.OpenLaw.row PySem.Challenge.rw_keptlaws_k05_whole_texts_of_signatures).prog 28) (kwd := []) ob_eq
    (by kernel_rfl) (fun s => by kernel_rfl) run (by kernel_rfl) (by kernel_rfl) (by kernel_rfl) (by rfl) (by first | assumption | decide +kernel) (by decide +kernel) ⟨rfl, rfl, rfl, rfl, rfl, by decide +kernel⟩ ?hw ?hc
  case hw => w_witness2
  case hc =>
    refine dn_walk (l := PySem.Challenge.rw_keptlaws_k05_whole_texts_of_signatures) (n := 63) (k := 3 * lv + 2) (x := "_law_script") rfl (by decide) (by kernel_rfl) hr ?F
    intro w mg fa0 h Y G hmg0
    obtain ⟨K, X, c, fa⟩ := Y
    have B := base_of X G tab_ok fa (fds c)
    have hmg : mg ("law" : Str) = some (.ref fa0) := by
      have e : (HandSHeadRun.topDef (PySem.W.OpenLaw.row PySem.Challenge.rw_keptlaws_k05_whole_texts_of_signatures).prog 28).name = ("law" : Str) := by kernel_rfl
      rw [← e]
      exact hmg0
    obtain ⟨fd, k, bb⟩ := f7 c
    have e := hmg.symm.trans (B.fn 7 "law" rfl).1
    cases e
    refine ⟨K, fd, spL (tab.gn K) pg lv 7 1, X, bb, fun H a ns hl hb hS => sp_law (Nat.le_trans hl (by decide)) (pure_ ns hl hb) hS, fun base KX GX => ?_⟩
    exact all_fn B lv 7 _ rfl _ _ k
end
end Law

noncomputable section
namespace Law
open Dn PySem PySem.Spec PyProof.Rows L2
def sgL (g : Sg) : Dn.P := .lst [.lst (g.ss.map S1), .lst (g.ops.map Op.p)]
def g0 : Sg := ⟨[[115], [116]], [⟨[102], [[115], [116]], [115]⟩, ⟨[99], [], [116]⟩]⟩
theorem nm_c : IsNm [99] := ⟨by decide, by decide, by decide⟩
theorem g0_ok : g0.ok := ⟨by decide, by decide, fun s hs => by
    simp only [g0, List.mem_cons, List.not_mem_nil, or_false] at hs
    rcases hs with rfl | rfl
    · exact nm_s
    · exact nm_t, by decide, by decide, by decide, fun o ho => by
    simp only [g0, List.mem_cons, List.not_mem_nil, or_false] at ho
    rcases ho with rfl | rfl
    · exact ⟨nm_f, by decide, by decide, by decide⟩
    · exact ⟨nm_c, by decide, by decide, by decide⟩, by decide⟩
theorem lit_g0 : Dn.P.str (Str.ofString "sorts s t\nop f s t > s\nop c > t\n") = S1 g0.text := congrArg Dn.P.str (by decide +kernel)
theorem lit_c : Dn.P.str (Str.ofString "c") = S1 [99] := congrArg Dn.P.str (by decide +kernel)
structure TxEnv (cl : Dn.Cl) : Prop where
  ops : OpsOk cl
  text : TextOk cl
  sigtext : SigTextOk cl
  read : ReadOk cl
section
variable {cl : Dn.Cl} {gv : Gv}
def found (g : Sg) : Dn.P := .lst [S1 g.text, S1 g.text, .lst (g.ops.map Op.p)]
theorem pl_found {g : Sg} (hg : g.ok) : Pl 4 (found g) := pl_lst (n := 3) (fun x hx => by
  simp only [List.mem_cons, List.not_mem_nil, or_false] at hx
  have h5 := hg.o5
  rcases hx with rfl | rfl | rfl
  · exact pl_str.up (by omega)
  · exact pl_str.up (by omega)
  · exact pl_lst (pl_ops fun o ho => (hg.oo o ho).l) (by rw [List.length_map]; omega)) (by simp)
def Sh (δ : Sl) : Prop := ∃ x0 x2 x3 x4 x5 x6 x7 x8 : Option D, δ = [x0, some (.ref 0), x2, x3, x4, x5, x6, x7, x8]
theorem turn_1 (E : SigEnv cl gv) (X : TxEnv cl) (s3 : gv.mt 0 3 = some 18) (s9 : gv.mt 0 9 = some 32) (s10 : gv.sm 0 10 = some (29, true)) {m : Mem} {o : MO} (h : m.get 0 = some o) (hb : BagO o) {δ : Sl} (hs : Sh δ) : ∃ δ' m' o', denB cl gv B_law_v2_9 δ m = .ok .nx δ' m' ∧ Sh δ' ∧ m'.get 0 = some o' ∧ BagO o' := by
  obtain ⟨x0, x2, x3, x4, x5, x6, x7, x8, rfl⟩ := hs
  obtain ⟨g, o1, hg, b1, e1⟩ := E.any m 0 o h hb
  have h1 := Mem.get_put (o := o1) h
  have e1 : cl 23 [.ref 0] m = .ok (.p (sgL g)) (m.put 0 o1) := e1
  generalize m.put 0 o1 = m1 at e1 h1
  have e2 : cl 13 [.p (sgL g)] m1 = .ok (.p g.p) m1 := E.sig m1 g hg
  have e3 : cl 75 [.p (sgL g)] m1 = .ok (.p (S1 g.text)) m1 := X.sigtext m1 g hg
  have e4 := X.read m1 g hg
  have e5 := X.text m1 g hg
  have e6 := X.ops m1 g
  have e7 := E.same.use (m := m1) (pl_found hg) (by omega)
  have e8 : cmpO cl gv .ne (.p g.p) (.p g.p) m1 = .ok (.p (.bl false)) m1 := by
    rw [cmp_ne E.G E.mth hg hg]
    simp
  have v1 : ∀ δ, den cl gv (.smeth 0 10 (.cons (.var 8) .nil)) δ m1 = (denL cl gv (.cons (.var 8) .nil) δ m1).bind fun xs m => cl 29 (.p (.cls 0) :: xs) m := fun δ => by
    show (match gv.sm 0 10 with | some (f, true) => (denL cl gv (.cons (.var 8) .nil) δ m1).bind fun xs m => cl f (.p (.cls 0) :: xs) m | some (f, false) => (denL cl gv (.cons (.var 8) .nil) δ m1).bind (cl f) | none => .no) = _
    rw [s10]
  have v2 : ∀ δ, den cl gv (.smethK 29 0 10 (.cons (.var 8) .nil) [0, 1]) δ m1 = (denL cl gv (.cons (.var 8) .nil) δ m1).bind fun zs m => cl 29 (permL [0, 1] [.p (.cls 0)] zs) m := fun δ => by
    show (match gv.sm 0 10 with | some (f', true) => if f' = 29 then (denL cl gv (.cons (.var 8) .nil) δ m1).bind fun zs m => cl 29 (permL [0, 1] [.p (.cls 0)] zs) m else .no | _ => .no) = _
    rw [s10]
    exact if_pos rfl
  have pm : permL [0, 1] [.p (.cls 0)] [Dn.D.p (S1 g.text)] = [.p (.cls 0), .p (S1 g.text)] := rfl
  have m3 : ∀ δ, den cl gv (.ix (.var 5) (.cst (.int 1))) (x0 :: some (.ref 0) :: x2 :: x3 :: x4 :: some (.p (sgL g)) :: δ) m1 = .ok (.p (.lst (g.ops.map Op.p))) m1 := fun δ => by simp [sgL]
  have mk1 : mkL false [.p (S1 g.text), .p (S1 g.text), .p (.lst (g.ops.map Op.p))] m1 = .ok (.p (found g)) m1 := mkL_p (l := [S1 g.text, S1 g.text, .lst (g.ops.map Op.p)])
  have mt9 : ∀ (i : Nat) (δ : Sl), δ[i]? = some (some (.p g.p)) → den cl gv (.meth (.var i) 9 .nil) δ m1 = .ok (.p (S1 g.text)) m1 := fun i δ hi => by
    rw [v_methP (x := .p g.p) (m' := m1) (c := 0) (f := 32) (by rw [Dn.v_var, hi]; rfl) rfl s9]
    simp only [l_nil, R.bind_ok, e5]
  have mt3 : ∀ (i : Nat) (δ : Sl), δ[i]? = some (some (.p g.p)) → den cl gv (.meth (.var i) 3 .nil) δ m1 = .ok (.p (.lst (g.ops.map Op.p))) m1 := fun i δ hi => by
    rw [v_methP (x := .p g.p) (m' := m1) (c := 0) (f := 18) (by rw [Dn.v_var, hi]; rfl) rfl s3]
    simp only [l_nil, R.bind_ok, e6]
  refine ⟨[x0, some (.ref 0), x2, x3, x4, some (.p (sgL g)), some (.p g.p), some (.p g.p), some (.p (S1 g.text))], m1, o1, ?_, ⟨_, _, _, _, _, _, _, _, rfl⟩, h1, b1⟩
  rw [B_law_v2_9, B_law_v2_8, B_law_v2_7]
  simp only [b_cons', s_set', s_par', v_call, l_cons, l_nil, Dn.v_var, slot_, List.getElem?_cons_succ, List.getElem?_cons_zero, R.bind_ok, e1, e2, e3, e4, v1, toS_ok, List.length_cons, List.length_nil, if_true, List.zip_cons_cons, List.zip_nil_left, List.zip_nil_right, List.foldl_cons, List.foldl_nil, List.set_cons_succ, List.set_cons_zero]
  rw [B_law_v2_6]
  have w1 : den cl gv (.lst false (.cons (.meth (.var 7) 9 .nil) (.cons (.meth (.var 6) 9 .nil) (.cons (.meth (.var 6) 3 .nil) .nil)))) [x0, some (.ref 0), x2, x3, x4, some (.p (sgL g)), some (.p g.p), some (.p g.p), some (.p (S1 g.text))] m1 = .ok (.p (found g)) m1 := by
    have n7 := mt9 7 [x0, some (.ref 0), x2, x3, x4, some (.p (sgL g)), some (.p g.p), some (.p g.p), some (.p (S1 g.text))] rfl
    have n6 := mt9 6 [x0, some (.ref 0), x2, x3, x4, some (.p (sgL g)), some (.p g.p), some (.p g.p), some (.p (S1 g.text))] rfl
    have n3 := mt3 6 [x0, some (.ref 0), x2, x3, x4, some (.p (sgL g)), some (.p g.p), some (.p g.p), some (.p (S1 g.text))] rfl
    rw [v_lst]
    simp only [l_cons, l_nil, n7, n6, n3, R.bind_ok, pl_cons, pl_nil, lnS_t, mk1]
  have w2 : den cl gv (.lst false (.cons (.var 8) (.cons (.var 8) (.cons (.ix (.var 5) (.cst (.int 1))) .nil)))) [x0, some (.ref 0), x2, x3, x4, some (.p (sgL g)), some (.p g.p), some (.p g.p), some (.p (S1 g.text))] m1 = .ok (.p (found g)) m1 := by
    rw [v_lst]
    simp only [l_cons, l_nil, m3, Dn.v_var, slot_, List.getElem?_cons_succ, List.getElem?_cons_zero, R.bind_ok, pl_cons, pl_nil, lnS_t, mk1]
  simp only [b_cons', s_ite', Dn.v_not, v_call, l_cons, l_nil, w1, w2, R.bind_ok, e7, asB_bl, Bool.not_true, Bool.false_eq_true, if_false, toS_ok, b_nil']
  rw [B_law_v2_4]
  simp only [b_cons', s_ite', Dn.v_or, Dn.v_cmp, l_cons, l_nil, Dn.v_var, slot_, List.getElem?_cons_succ, List.getElem?_cons_zero, R.bind_ok, e8, v2, pm, e4, asB_bl, Bool.false_eq_true, if_false, toS_ok, b_nil']
theorem law_loop (E : SigEnv cl gv) (X : TxEnv cl) (s3 : gv.mt 0 3 = some 18) (s9 : gv.mt 0 9 = some 32) (s10 : gv.sm 0 10 = some (29, true)) {t : Its} (ht : t.n = none) : ∀ (l : List D) (δ : Sl) (m : Mem) (o : MO), Sh δ → m.get 0 = some o → BagO o → ∃ δ' m', forRun (bodyF cl gv (.nm 2) B_law_v2_9) t l δ m = .ok .nx δ' m' ∧ Sh δ'
  | [], δ, m, o, hs, h, hb => ⟨δ, m, by
    unfold forRun
    rw [if_pos (by unfold Its.held; rw [ht]; trivial)], hs⟩
  | x :: l, δ, m, o, hs, h, hb => by
    have hs' : Sh (δ.set 2 (some x)) := by
      obtain ⟨x0, x2, x3, x4, x5, x6, x7, x8, rfl⟩ := hs
      exact ⟨x0, some x, x3, x4, x5, x6, x7, x8, rfl⟩
    obtain ⟨δ1, m1, o1, e1, s1, h1, b1⟩ := turn_1 E X s3 s9 s10 h hb hs'
    obtain ⟨δ2, m2, e2, s2⟩ := law_loop E X s3 s9 s10 ht l δ1 m1 o1 s1 h1 b1
    refine ⟨δ2, m2, ?_, s2⟩
    unfold forRun
    rw [if_pos (by unfold Its.held; rw [ht]; trivial), bodyF_ rfl, e1]
    simp only
    exact e2
/-- behind the loop -/
theorem law_end (E : SigEnv cl gv) (X : TxEnv cl) (s3 : gv.mt 0 3 = some 18) (s9 : gv.mt 0 9 = some 32) (s10 : gv.sm 0 10 = some (29, true)) {m : Mem} {δ : Sl} (hs : Sh δ) : endS (denB cl gv B_law_v2_2 δ m) = .ok (.p (.bl true)) m := by
  obtain ⟨x0, x2, x3, x4, x5, x6, x7, x8, rfl⟩ := hs
  have e4 := X.read m g0 g0_ok
  have e5 := X.text m g0 g0_ok
  have e8 : cmpO cl gv .eq (.p g0.p) (.p g0.p) m = .ok (.p (.bl true)) m := by
    rw [cmp_eq E.G E.mth g0_ok g0_ok]
    simp
  have e9 : cmpO cl gv .eq (.p (S1 g0.text)) (.p (S1 g0.text)) m = .ok (.p (.bl true)) m := by
    rw [co_eqX]
    simp
  have v1 : ∀ δ, den cl gv (.smeth 0 10 (.cons (.var 3) .nil)) δ m = (denL cl gv (.cons (.var 3) .nil) δ m).bind fun xs m => cl 29 (.p (.cls 0) :: xs) m := fun δ => by
    show (match gv.sm 0 10 with | some (f, true) => (denL cl gv (.cons (.var 3) .nil) δ m).bind fun xs m => cl f (.p (.cls 0) :: xs) m | some (f, false) => (denL cl gv (.cons (.var 3) .nil) δ m).bind (cl f) | none => .no) = _
    rw [s10]
  have mk1 := sig_make (cl := cl) (gv := gv) (l := .cons (.lst false (.cons (.cst (.str "s")) (.cons (.cst (.str "t")) .nil))) (.cons (.lst false (.cons (.tup (.cons (.cst (.str "f")) (.cons (.tup (.cons (.cst (.str "s")) (.cons (.cst (.str "t")) .nil))) (.cons (.cst (.str "s")) .nil)))) (.cons (.tup (.cons (.cst (.str "c")) (.cons (.tup .nil) (.cons (.cst (.str "t")) .nil)))) .nil))) .nil)) (δ := [x0, some (.ref 0), x2, some (.p (S1 g0.text)), x4, x5, x6, x7, x8]) (d1 := .p (.lst (g0.ss.map S1))) (d2 := .p (.lst (g0.ops.map Op.p))) E.init E.G (m := m) (g := g0) (by simp [lit_s, lit_t, lit_f, lit_c]; exact ⟨rfl, rfl⟩) g0_ok (.l _) (.l _)
  have mt9 : den cl gv (.meth (.var 4) 9 .nil) [x0, some (.ref 0), x2, some (.p (S1 g0.text)), some (.p g0.p), x5, x6, x7, x8] m = .ok (.p (S1 g0.text)) m := by
    rw [v_methP (x := .p g0.p) (m' := m) (c := 0) (f := 32) rfl rfl s9]
    simp only [l_nil, R.bind_ok, e5]
  rw [B_law_v2_2]
  simp only [b_cons', s_set', v_cst, lit_g0, toS_ok, List.set_cons_succ, List.set_cons_zero]
  rw [B_law_v2_1]
  simp only [b_cons', s_set', mk1, toS_ok, List.set_cons_succ, List.set_cons_zero]
  rw [B_law_v2_0]
  simp only [b_cons', s_ret', Dn.v_and, Dn.v_cmp, v1, l_cons, l_nil, Dn.v_var, slot_, List.getElem?_cons_succ, List.getElem?_cons_zero, R.bind_ok, e4, e8, mt9, e9, asB_bl, if_true, toS_ok, endS_rt]
theorem law_1 (E : SigEnv cl gv) (X : TxEnv cl) (s3 : gv.mt 0 3 = some 18) (s9 : gv.mt 0 9 = some 32) (s10 : gv.sm 0 10 = some (29, true)) {ns : List Int} (hl : ns.length ≤ 63) : ∃ m, runD cl gv D_law_v2 [.p (.scr ns)] [] = .ok (.p (.bl true)) m := by
  unfold D_law_v2
  rw [runD_ok (np := 1) rfl]
  obtain ⟨o, e0, b0⟩ := E.bag [] ns hl
  have h0 : (Mem.new [] o).get 0 = some o := Mem.get_last (m := []) (o := o)
  obtain ⟨δ', m', e1, s1⟩ := law_loop E X s3 s9 s10 (t := ⟨(List.range 4).map fun (k : Nat) => .p (.int (k : Int)), none⟩) rfl ((List.range 4).map fun (k : Nat) => .p (.int (k : Int))) [some (.p (.scr ns)), some (.ref 0), none, none, none, none, none, none, none] (Mem.new [] o) o ⟨_, _, _, _, _, _, _, _, rfl⟩ h0 b0
  have fin := law_end E X s3 s9 s10 (m := m') s1
  have rg := rng_ (n := 4) (by omega)
  have rg : itRng (.p (.int 4)) = _ := rg
  have e0 : cl 2 [.p (.scr ns)] [] = .ok (.ref 0) (Mem.new [] o) := e0
  have st : denB cl gv B_law_v2_11 (startD 9 [.p (.scr ns)]) [] = denB cl gv B_law_v2_2 δ' m' := by
    rw [B_law_v2_11, B_law_v2_10]
    simp only [b_cons', s_set', v_call, l_cons, l_nil, Dn.v_var, start_, List.map_cons, List.map_nil, List.length_cons, List.length_nil, List.replicate, List.cons_append, List.nil_append, List.getElem?_cons_zero, slot_, R.bind_ok, e0, toS_ok, List.set_cons_succ, List.set_cons_zero, s_forF, i_rng', v_cst, rg, oR_some, e1]
  rw [st, fin]
  show ∃ m, trimR [] (.ok (.p (.bl true)) m') = _
  by_cases c : Tame [] m'
  · exact ⟨_, trim_tame c⟩
  · exact ⟨m', if_neg c⟩
end
structure TxPg (p : Pg) : Prop where
  f18 : p.fd 18 = some D_Signature_operations
  f29 : p.fd 29 = some D_Signature_read
  f30 : p.fd 30 = some D_operation_in
  f31 : p.fd 31 = some D_lines_of
  f32 : p.fd 32 = some D_Signature_text
  f75 : p.fd 75 = some D__law_sig_text
theorem law_pure {p : Pg} {k : Nat} (H : SigPg p) (X : TxPg p) (s3 : p.gv.mt 0 3 = some 18) (s9 : p.gv.mt 0 9 = some 32) (s10 : p.gv.sm 0 10 = some (29, true)) (h7 : p.fd 7 = some D_law_v2) (ns : List Int) (hl : ns.length ≤ 63) : ∃ m, callAt p (k + 7) 7 [.p (.scr ns)] [] = .ok (.p (.bl true)) m := by
  rw [callAt_ok h7]
  exact law_1 (env_ok H) ⟨ops_ok (k := k + 5) X.f18 H.init.G, text_ok (k := k + 5) X.f32 H.init.G, sigtext_ok (k := k + 5) X.f75, read_ok (k := k + 2) H.init X.f30 X.f31 X.f29⟩ s3 s9 s10 hl
end Law
end

theorem Law.sigPg : Dn.SigPg Law.pg :=
  have G : Dn.SigGv Law.pg.gv := ⟨rfl, rfl, rfl, rfl, by rw [← Dn.alpha_str]; rfl, rfl, rfl, rfl, rfl, rfl, rfl, rfl, rfl⟩
  ⟨rfl, rfl, rfl, rfl, rfl, rfl, rfl, ⟨rfl, rfl, rfl, rfl, rfl, rfl, G⟩, ⟨rfl, rfl, rfl, rfl⟩⟩
theorem PySem.Challenge.cw_keptlaws_k05_whole_texts_of_signatures_holds : PySem.Challenge.rw_keptlaws_k05_whole_texts_of_signatures.Holds :=
  Law.law_ok 7 ⟨rfl, by decide, by decide⟩ fun ns hl _ => Law.law_pure (k := 0) Law.sigPg ⟨rfl, rfl, rfl, rfl, rfl, rfl⟩ rfl rfl rfl rfl ns hl
